import PyProof.Rows.All
import Wide.All
import OpenK.AllK
import Wide.FinOn
import HandS.ForMost
import HandS.ForExc
import HandS.CallSlots
import HandS.SlotsOwn
import HandS.HeadHook2
import HandS.NoneIn
import HandS.Style
import HandS.Wide
import HandS.TupAny
import HandS.Conv
import HandS.Star
import HandS.Strs
import HandS.Text
import HandS.Iter
import HandS.Zip
import HandS.Comp
import KE.GoesEnum
import KE.GoesMore
import KE.KStateDown
import HandS.Head0
import HandS.Head1
import HandS.Head2
import HandS.HeadEnd
import HandS.HeadHook1
import HandS.EndBits
import HandS.Ends
import HandS.WordsDict
import PySem.Challenge.RW_cordsatrest_k14_whole_what_pulls_leave_o
import HandS.Deep
import HandS.Flow
import HandS.TupMul
import HandS.IsInst
import HandS.RaiseMore
import KE.KDictSum
import KE.KEqDict
import PyProof.ReprReads
import PyProof.ReprRoads
import PyProof.CallFns
import OpenK.KOps
import Lean
set_option Elab.async false
set_option linter.all false
set_option maxRecDepth 100000
set_option maxHeartbeats 0
/-! AM1: the abstract machine: values, heap, relations, results. -/
namespace AM
open PySem PySem.Spec PyProof.Rows L2

/-- values: tuples and lists that nobody changes by what they hold; obj: the n-th object of the abstract heap; scr: the script -/
inductive P where
  | non | bl (b : Bool) | int (i : Int) | str (x : Str) | tup (xs : List P) | lst (xs : List P) | obj (n : Nat) | cls (x : Str) | scr (xs : List P)

/-- objects of the abstract heap -/
inductive O where
  | lst (xs : List P) | dct (kvs : List (Key × P)) | ins (C : Str) (fs : List (Option P))

abbrev AH := List O
abbrev Loc := List (Option P)

/-- a tuple that stands -/
def TupAt (K : PySem.W.Frag) (as : List Addr) (H : Hp) (a : Addr) (vs : List V) : Prop :=
  (a ∉ as ∧ Rd H a (.tup vs)) ∨ (∃ (o : Obj) (its : Array Value) (n : Nat), K.lookup a = some o ∧ o.cls = .type "tuple" ∧ o.data = .seq its n ∧ its.size ≤ sizeLine ∧ Vals vs its.toList)
theorem TupAt.sq {K : PySem.W.Frag} {as : List Addr} {H : Hp} {a : Addr} {vs : List V} (h : TupAt K as H a vs) : SqT K H a vs := by
  rcases h with ⟨_, h⟩ | h
  · exact .inl h
  · exact .inr h

mutual
def Rep (K : PySem.W.Frag) (as : List Addr) (H : Hp) : P → V → Prop
  | .non, v => v = .non
  | .bl b, v => v = .bl b
  | .int i, v => v = .int i
  | .str x, v => v = .str x
  | .tup xs, v => ∃ a vs, v = .ref a ∧ TupAt K as H a vs ∧ Reps K as H xs vs
  | .lst xs, v => ∃ a vs, v = .ref a ∧ a ∉ as ∧ H a = some (.lst vs) ∧ Reps K as H xs vs
  | .obj n, v => ∃ a, v = .ref a ∧ as[n]? = some a
  | .cls x, v => v = .ref (He.ga K x)
  | .scr xs, v => ∃ a vs o, v = .ref a ∧ a ∉ as ∧ H a = some (.frz o (.lst vs)) ∧ Reps K as H xs vs
def Reps (K : PySem.W.Frag) (as : List Addr) (H : Hp) : List P → List V → Prop
  | [], vs => vs = []
  | x :: xs, vs => ∃ v r, vs = v :: r ∧ Rep K as H x v ∧ Reps K as H xs r
end

def RepO (K : PySem.W.Frag) (as : List Addr) (H : Hp) : Option P → Option V → Prop
  | some p, o => ∃ v, o = some v ∧ Rep K as H p v
  | none, _ => True
/-- slots: what is told stands -/
def RepS (K : PySem.W.Frag) (as : List Addr) (H : Hp) (t : Loc) (s : L2.St) : Prop :=
  t.length = s.length ∧ ∀ (i : Nat) (p : P), t[i]? = some (some p) → ∃ v, s[i]? = some (some v) ∧ Rep K as H p v

def RepH (K : PySem.W.Frag) (as : List Addr) (H : Hp) : O → Addr → Prop
  | .lst xs, a => ∃ vs, H a = some (.lst vs) ∧ Reps K as H xs vs
  | .dct kvs, a => ∃ ws : List (Key × V), H a = some (.dK ws) ∧ ws.map (·.1) = kvs.map (·.1) ∧ Reps K as H (kvs.map (·.2)) (ws.map (·.2))
  | .ins C fs, a => ∃ dx vs, SlX.Slt H a (He.ga K C) dx vs ∧ ∀ (i : Nat) (p : P), fs[i]? = some (some p) → ∃ v, vs[i]? = some (some v) ∧ Rep K as H p v

structure RelH (K : PySem.W.Frag) (as : List Addr) (h : AH) (H : Hp) : Prop where
  len : as.length = h.length
  nd : as.Nodup
  at_ : ∀ (n : Nat) (o : O), h[n]? = some o → ∃ a, as[n]? = some a ∧ RepH K as H o a

structure Ext (as : List Addr) (H : Hp) (as' : List Addr) (H' : Hp) : Prop where
  pre : ∃ bs, as' = as ++ bs
  keep : ∀ b o, H b = some o → b ∉ as → (∀ u, o ≠ .own u) → H' b = some o ∧ b ∉ as'
theorem Ext.refl (as : List Addr) (H : Hp) : Ext as H as H := ⟨⟨[], by simp⟩, fun _ _ h n _ => ⟨h, n⟩⟩
theorem Ext.trans {a b c : List Addr} {H H1 H2 : Hp} (x : Ext a H b H1) (y : Ext b H1 c H2) : Ext a H c H2 := by
  refine ⟨?_, fun q o h n m => ?_⟩
  · obtain ⟨u, rfl⟩ := x.pre
    obtain ⟨v, rfl⟩ := y.pre
    exact ⟨u ++ v, by simp⟩
  · obtain ⟨h1, n1⟩ := x.keep q o h n m
    exact y.keep q o h1 n1 m
theorem Ext.get {as as' : List Addr} {H H' : Hp} (x : Ext as H as' H') {n : Nat} {a : Addr} (h : as[n]? = some a) : as'[n]? = some a := by
  obtain ⟨u, rfl⟩ := x.pre
  rw [List.getElem?_append_left (List.getElem?_eq_some_iff.mp h).1]
  exact h
theorem Ext.rd {as as' : List Addr} {H H' : Hp} (x : Ext as H as' H') {a : Addr} {u : HO} (n : a ∉ as) (m : ∀ z, u ≠ .own z) (h : Rd H a u) : Rd H' a u ∧ a ∉ as' := by
  rcases h with h | ⟨o, h⟩
  · obtain ⟨h1, h2⟩ := x.keep a _ h n m
    exact ⟨.inl h1, h2⟩
  · obtain ⟨h1, h2⟩ := x.keep a _ h n (fun _ z => by cases z)
    exact ⟨.inr ⟨o, h1⟩, h2⟩
theorem Ext.tup {K : PySem.W.Frag} {as as' : List Addr} {H H' : Hp} (x : Ext as H as' H') {a : Addr} {vs : List V} (h : TupAt K as H a vs) : TupAt K as' H' a vs := by
  rcases h with ⟨n, h⟩ | h
  · obtain ⟨h1, h2⟩ := x.rd n (fun _ z => by cases z) h
    exact .inl ⟨h2, h1⟩
  · exact .inr h
mutual
theorem Rep.mono {K : PySem.W.Frag} {as as' : List Addr} {H H' : Hp} (x : Ext as H as' H') : ∀ {p : P} {v : V}, Rep K as H p v → Rep K as' H' p v
  | .non, _, h => h
  | .bl _, _, h => h
  | .int _, _, h => h
  | .str _, _, h => h
  | .tup xs, _, h => by
    unfold Rep at h ⊢
    obtain ⟨a, vs, e, t, r⟩ := h
    exact ⟨a, vs, e, x.tup t, Reps.mono x r⟩
  | .lst xs, _, h => by
    unfold Rep at h ⊢
    obtain ⟨a, vs, e, n, t, r⟩ := h
    obtain ⟨h1, h2⟩ := x.keep a _ t n (fun _ z => by cases z)
    exact ⟨a, vs, e, h2, h1, Reps.mono x r⟩
  | .obj n, _, h => by
    unfold Rep at h ⊢
    obtain ⟨a, e, t⟩ := h
    exact ⟨a, e, x.get t⟩
  | .cls _, _, h => h
  | .scr xs, _, h => by
    unfold Rep at h ⊢
    obtain ⟨a, vs, o, e, n, t, r⟩ := h
    obtain ⟨h1, h2⟩ := x.keep a _ t n (fun _ z => by cases z)
    exact ⟨a, vs, o, e, h2, h1, Reps.mono x r⟩
theorem Reps.mono {K : PySem.W.Frag} {as as' : List Addr} {H H' : Hp} (x : Ext as H as' H') : ∀ {p : List P} {v : List V}, Reps K as H p v → Reps K as' H' p v
  | [], _, h => h
  | p :: ps, _, h => by
    unfold Reps at h ⊢
    obtain ⟨v, r, e, h1, h2⟩ := h
    exact ⟨v, r, e, Rep.mono x h1, Reps.mono x h2⟩
end
theorem RepS.mono {K : PySem.W.Frag} {as as' : List Addr} {H H' : Hp} (x : Ext as H as' H') {t : Loc} {s : L2.St} (h : RepS K as H t s) : RepS K as' H' t s :=
  ⟨h.1, fun i p e => let ⟨v, h1, h2⟩ := h.2 i p e; ⟨v, h1, h2.mono x⟩⟩

/-! ### lists -/
theorem reps_nil {K : PySem.W.Frag} {as : List Addr} {H : Hp} : Reps K as H [] [] := by unfold Reps; rfl
theorem reps_cons {K : PySem.W.Frag} {as : List Addr} {H : Hp} {p : P} {ps : List P} {v : V} {vs : List V} (h : Rep K as H p v) (t : Reps K as H ps vs) : Reps K as H (p :: ps) (v :: vs) := by
  unfold Reps
  exact ⟨v, vs, rfl, h, t⟩
theorem reps_inv {K : PySem.W.Frag} {as : List Addr} {H : Hp} {p : P} {ps : List P} {vs : List V} (h : Reps K as H (p :: ps) vs) : ∃ v r, vs = v :: r ∧ Rep K as H p v ∧ Reps K as H ps r := by
  unfold Reps at h
  exact h
theorem reps_inv0 {K : PySem.W.Frag} {as : List Addr} {H : Hp} {vs : List V} (h : Reps K as H [] vs) : vs = [] := by
  unfold Reps at h
  exact h
theorem Reps.len {K : PySem.W.Frag} {as : List Addr} {H : Hp} : ∀ {ps : List P} {vs : List V}, Reps K as H ps vs → ps.length = vs.length
  | [], _, h => by rw [reps_inv0 h]; rfl
  | _ :: _, _, h => by
    obtain ⟨v, r, rfl, _, t⟩ := reps_inv h
    simp [Reps.len t]
theorem Reps.app {K : PySem.W.Frag} {as : List Addr} {H : Hp} : ∀ {ps : List P} {vs : List V} {qs : List P} {ws : List V}, Reps K as H ps vs → Reps K as H qs ws → Reps K as H (ps ++ qs) (vs ++ ws)
  | [], _, _, _, h, t => by rw [reps_inv0 h]; exact t
  | _ :: _, _, _, _, h, t => by
    obtain ⟨v, r, rfl, h1, h2⟩ := reps_inv h
    exact reps_cons h1 (Reps.app h2 t)
theorem Reps.get {K : PySem.W.Frag} {as : List Addr} {H : Hp} : ∀ {ps : List P} {vs : List V} {i : Nat} {p : P}, Reps K as H ps vs → ps[i]? = some p → ∃ v, vs[i]? = some v ∧ Rep K as H p v
  | [], _, _, _, _, e => by simp at e
  | _ :: _, _, 0, _, h, e => by
    obtain ⟨v, r, rfl, h1, h2⟩ := reps_inv h
    simp at e
    subst e
    exact ⟨v, rfl, h1⟩
  | _ :: _, _, i + 1, _, h, e => by
    obtain ⟨v, r, rfl, h1, h2⟩ := reps_inv h
    obtain ⟨u, e1, e2⟩ := Reps.get (i := i) h2 (by simpa using e)
    exact ⟨u, by simpa using e1, e2⟩
theorem Reps.set {K : PySem.W.Frag} {as : List Addr} {H : Hp} {p : P} {v : V} (hp : Rep K as H p v) : ∀ {ps : List P} {vs : List V} (i : Nat), Reps K as H ps vs → Reps K as H (ps.set i p) (vs.set i v)
  | [], _, _, h => by rw [reps_inv0 h]; exact reps_nil
  | _ :: _, _, 0, h => by
    obtain ⟨u, r, rfl, h1, h2⟩ := reps_inv h
    exact reps_cons hp h2
  | _ :: _, _, i + 1, h => by
    obtain ⟨u, r, rfl, h1, h2⟩ := reps_inv h
    exact reps_cons h1 (Reps.set hp i h2)
theorem Reps.take {K : PySem.W.Frag} {as : List Addr} {H : Hp} : ∀ {ps : List P} {vs : List V} (n : Nat), Reps K as H ps vs → Reps K as H (ps.take n) (vs.take n)
  | _, _, 0, _ => by simp; exact reps_nil
  | [], _, _ + 1, h => by rw [reps_inv0 h]; exact reps_nil
  | _ :: _, _, n + 1, h => by
    obtain ⟨u, r, rfl, h1, h2⟩ := reps_inv h
    exact reps_cons h1 (Reps.take n h2)
theorem Reps.drop {K : PySem.W.Frag} {as : List Addr} {H : Hp} : ∀ {ps : List P} {vs : List V} (n : Nat), Reps K as H ps vs → Reps K as H (ps.drop n) (vs.drop n)
  | _, _, 0, h => h
  | [], _, _ + 1, h => by rw [reps_inv0 h]; exact reps_nil
  | _ :: _, _, n + 1, h => by
    obtain ⟨u, r, rfl, h1, h2⟩ := reps_inv h
    exact Reps.drop n h2
theorem Reps.reverse {K : PySem.W.Frag} {as : List Addr} {H : Hp} : ∀ {ps : List P} {vs : List V}, Reps K as H ps vs → Reps K as H ps.reverse vs.reverse
  | [], _, h => by rw [reps_inv0 h]; exact reps_nil
  | _ :: _, _, h => by
    obtain ⟨u, r, rfl, h1, h2⟩ := reps_inv h
    rw [List.reverse_cons, List.reverse_cons]
    exact (Reps.reverse h2).app (reps_cons h1 reps_nil)
theorem Reps.erase {K : PySem.W.Frag} {as : List Addr} {H : Hp} : ∀ {ps : List P} {vs : List V} (i : Nat), Reps K as H ps vs → Reps K as H (ps.eraseIdx i) (vs.eraseIdx i)
  | [], _, _, h => by rw [reps_inv0 h]; exact reps_nil
  | _ :: _, _, 0, h => by
    obtain ⟨u, r, rfl, h1, h2⟩ := reps_inv h
    exact h2
  | _ :: _, _, i + 1, h => by
    obtain ⟨u, r, rfl, h1, h2⟩ := reps_inv h
    exact reps_cons h1 (Reps.erase i h2)
theorem Reps.rep {K : PySem.W.Frag} {as : List Addr} {H : Hp} {ps : List P} {vs : List V} (h : Reps K as H ps vs) : ∀ k : Nat, Reps K as H (List.replicate k ps).flatten (List.replicate k vs).flatten
  | 0 => reps_nil
  | k + 1 => by
    simp only [List.replicate_succ, List.flatten_cons]
    exact h.app (Reps.rep h k)
theorem reps_split {K : PySem.W.Frag} {as : List Addr} {H : Hp} : ∀ {ps qs : List P} {vs : List V}, Reps K as H (ps ++ qs) vs → ∃ v1 v2, vs = v1 ++ v2 ∧ Reps K as H ps v1 ∧ Reps K as H qs v2
  | [], _, vs, h => ⟨[], vs, rfl, reps_nil, h⟩
  | _ :: _, _, _, h => by
    obtain ⟨u, r, rfl, h1, h2⟩ := reps_inv h
    obtain ⟨v1, v2, rfl, a, b⟩ := reps_split h2
    exact ⟨u :: v1, v2, rfl, reps_cons h1 a, b⟩
theorem reps_of_get {K : PySem.W.Frag} {as : List Addr} {H : Hp} : ∀ {ps : List P} {vs : List V}, ps.length = vs.length → (∀ (i : Nat) p v, ps[i]? = some p → vs[i]? = some v → Rep K as H p v) → Reps K as H ps vs
  | [], [], _, _ => reps_nil
  | [], _ :: _, h, _ => by simp at h
  | _ :: _, [], h, _ => by simp at h
  | p :: ps, v :: vs, h, f => reps_cons (f 0 p v rfl rfl) (reps_of_get (by simpa using h) fun i p v a b => f (i + 1) p v (by simpa using a) (by simpa using b))

/-! ### the heap -/
theorem RelH.live {K : PySem.W.Frag} {as : List Addr} {h : AH} {H : Hp} (r : RelH K as h H) {a : Addr} (m : a ∈ as) : H a ≠ none ∧ (∀ xs, H a ≠ some (.tup xs)) ∧ (∀ fs, H a ≠ some (.xd fs)) ∧ (∀ u, H a ≠ some (.own u)) := by
  obtain ⟨n, hn, e⟩ := List.getElem_of_mem m
  have hl : n < h.length := by rw [← r.len]; exact hn
  obtain ⟨b, e2, q⟩ := r.at_ n h[n] (by simp [hl])
  have eb : b = a := by
    rw [List.getElem?_eq_getElem hn, e] at e2
    exact (Option.some.inj e2).symm
  subst eb
  cases o : h[n] with
  | lst xs =>
    rw [o] at q
    obtain ⟨vs, q1, _⟩ := q
    rw [q1]
    exact ⟨by simp, by simp, by simp, by simp⟩
  | dct xs =>
    rw [o] at q
    obtain ⟨vs, q1, _⟩ := q
    rw [q1]
    exact ⟨by simp, by simp, by simp, by simp⟩
  | ins C fs =>
    rw [o] at q
    obtain ⟨dx, vs, q1, _⟩ := q
    rcases q1 with ⟨z, _⟩ | ⟨z, _⟩
    · rw [z]
      exact ⟨by simp, by simp, by simp, by simp⟩
    · rw [z]
      unfold SlX.SlO
      exact ⟨by simp, by simp, by simp, by simp⟩
theorem RelH.new {K : PySem.W.Frag} {as : List Addr} {h : AH} {H : Hp} (r : RelH K as h H) {p : Addr} (e : H p = none) : p ∉ as := fun m => (r.live m).1 e
/-- what is laid beside -/
theorem Ext.laid {K : PySem.W.Frag} {as : List Addr} {h : AH} {H : Hp} (r : RelH K as h H) {p : Addr} {o : HO} (e : H p = none) : Ext as H as (upd H p o) :=
  ⟨⟨[], by simp⟩, fun b u q n _ => ⟨by rw [upd_ne (fun z => by rw [z, e] at q; cases q)]; exact q, n⟩⟩
theorem RepH.mono {K : PySem.W.Frag} {as as' : List Addr} {H H' : Hp} (x : Ext as H as' H') {o : O} {a : Addr} (k : H' a = H a) (hd : ∀ d fs, H d = some (.xd fs) → d ∉ as) (h : RepH K as H o a) : RepH K as' H' o a := by
  cases o with
  | lst xs =>
    obtain ⟨vs, q1, q2⟩ := h
    exact ⟨vs, k.trans q1, q2.mono x⟩
  | dct xs =>
    obtain ⟨vs, q1, q2, q3⟩ := h
    exact ⟨vs, k.trans q1, q2, q3.mono x⟩
  | ins C fs =>
    obtain ⟨dx, vs, q, q4⟩ := h
    refine ⟨dx, vs, ?_, fun i p e => let ⟨v, e1, e2⟩ := q4 i p e; ⟨v, e1, e2.mono x⟩⟩
    rcases q with ⟨z1, z2⟩ | ⟨z1, z2⟩
    · exact .inl ⟨k.trans z1, z2⟩
    · exact .inr ⟨k.trans z1, (x.keep dx _ z2 (hd dx _ z2) (fun _ z => by cases z)).1⟩
theorem RelH.xds {K : PySem.W.Frag} {as : List Addr} {h : AH} {H : Hp} (r : RelH K as h H) : ∀ d fs, H d = some (.xd fs) → d ∉ as := fun d u e m => (r.live m).2.2.1 u e
theorem RelH.laid {K : PySem.W.Frag} {as : List Addr} {h : AH} {H : Hp} (r : RelH K as h H) {p : Addr} {o : HO} (e : H p = none) : RelH K as h (upd H p o) :=
  ⟨r.len, r.nd, fun n u q => by
    obtain ⟨a, q1, q2⟩ := r.at_ n u q
    refine ⟨a, q1, q2.mono (Ext.laid r e) ?_ r.xds⟩
    rw [upd_ne]
    intro z
    exact r.new e (z ▸ List.mem_of_getElem? q1)⟩
/-- a new object, tracked -/
theorem Ext.push {K : PySem.W.Frag} {as : List Addr} {h : AH} {H : Hp} (r : RelH K as h H) {p : Addr} {o : HO} (e : H p = none) : Ext as H (as ++ [p]) (upd H p o) :=
  ⟨⟨[p], rfl⟩, fun b u q n _ => ⟨by rw [upd_ne (fun z => by rw [z, e] at q; cases q)]; exact q, fun m => by
    rcases List.mem_append.mp m with m | m
    · exact n m
    · rw [List.mem_singleton.mp m, e] at q; cases q⟩⟩
theorem RelH.push {K : PySem.W.Frag} {as : List Addr} {h : AH} {H : Hp} (r : RelH K as h H) {p : Addr} {o : HO} {u : O} (e : H p = none) (q : RepH K (as ++ [p]) (upd H p o) u p) : RelH K (as ++ [p]) (h ++ [u]) (upd H p o) := by
  refine ⟨by simp [r.len], ?_, fun n v z => ?_⟩
  · rw [List.nodup_append]
    refine ⟨r.nd, by simp, fun a ha b hb => ?_⟩
    rw [List.mem_singleton.mp hb]
    exact fun z => r.new e (z ▸ ha)
  · by_cases hn : n < h.length
    · rw [List.getElem?_append_left hn] at z
      obtain ⟨a, q1, q2⟩ := r.at_ n v z
      refine ⟨a, ?_, q2.mono (Ext.push r e) ?_ r.xds⟩
      · rw [List.getElem?_append_left (by rw [r.len]; exact hn)]
        exact q1
      · rw [upd_ne]
        intro z
        exact r.new e (z ▸ List.mem_of_getElem? q1)
    · rw [List.getElem?_append_right (by omega)] at z
      have hz : n - h.length = 0 := by
        cases k : n - h.length with
        | zero => rfl
        | succ m => rw [k] at z; simp at z
      rw [hz] at z
      simp at z
      subst z
      refine ⟨p, ?_, q⟩
      rw [List.getElem?_append_right (by rw [r.len]; omega), r.len, hz]
      rfl
/-- a tracked object is changed -/
theorem Ext.put {K : PySem.W.Frag} {as : List Addr} {h : AH} {H : Hp} (r : RelH K as h H) {n : Nat} {p : Addr} {o : HO} (e : as[n]? = some p) : Ext as H as (upd H p o) :=
  ⟨⟨[], by simp⟩, fun b u q m _ => ⟨by
    have z : b ≠ p := fun z => by
      subst z
      exact m (List.mem_of_getElem? e)
    rw [upd_ne z]; exact q, m⟩⟩
theorem RelH.put {K : PySem.W.Frag} {as : List Addr} {h : AH} {H : Hp} (r : RelH K as h H) {n : Nat} {p : Addr} {o : HO} {u : O} (e : as[n]? = some p) (q : RepH K as (upd H p o) u p) : RelH K as (h.set n u) (upd H p o) := by
  refine ⟨by simp [r.len], r.nd, fun m v z => ?_⟩
  by_cases hn : n = m
  · subst hn
    by_cases hl : n < h.length
    · rw [List.getElem?_set_self hl] at z
      cases z
      exact ⟨p, e, q⟩
    · rw [List.getElem?_eq_none (by simpa using hl)] at z
      cases z
  · rw [List.getElem?_set_ne hn] at z
    obtain ⟨a, q1, q2⟩ := r.at_ m v z
    refine ⟨a, q1, q2.mono (Ext.put r e) ?_ r.xds⟩
    rw [upd_ne]
    intro z
    subst z
    exact hn ((List.getElem?_inj (List.getElem?_eq_some_iff.mp e).1 r.nd).mp (e.trans q1.symm))
theorem RelH.obj {K : PySem.W.Frag} {as : List Addr} {h : AH} {H : Hp} (r : RelH K as h H) {n : Nat} {o : O} {a : Addr} (e : h[n]? = some o) (q : as[n]? = some a) : RepH K as H o a := by
  obtain ⟨b, q1, q2⟩ := r.at_ n o e
  rw [q] at q1
  cases q1
  exact q2

/-! ### results -/
inductive Out (α : Type) where
  | ok (a : α) (h : AH) | exc (c : Str) (p : P) (h : AH) | bad
def Out.bind {α β : Type} (o : Out α) (f : α → AH → Out β) : Out β := match o with
  | .ok a h => f a h
  | .exc c p h => .exc c p h
  | .bad => .bad
inductive OutS where
  | nx (t : Loc) (h : AH) | rt (p : P) (h : AH) | bk (t : Loc) (h : AH) | ct (t : Loc) (h : AH) | exc (c : Str) (p : P) (t : Loc) (h : AH) | bad
def OutS.seq (o : OutS) (f : Loc → AH → OutS) : OutS := match o with
  | .nx t h => f t h
  | o => o
/-- an expression's result, then a statement's -/
def Out.toS {α : Type} (o : Out α) (t : Loc) (f : α → AH → OutS) : OutS := match o with
  | .ok a h => f a h
  | .exc c p h => .exc c p t h
  | .bad => .bad

/-- the wish of an exception, at slots and heap -/
def ExcP (K : PySem.W.Frag) (W : WX) (s : L2.St) (as : List Addr) (H : Hp) (c : Str) (p : P) (h : AH) : Prop :=
  ∀ as' H' d w, Ext as H as' H' → RelH K as' h H' → H' d = some (.xd [(("value" : Str), w)]) → Rep K as' H' p w → W (.ref (He.ga K c)) (some d) s H'
def Post {α β : Type} (R : List Addr → Hp → α → β → Prop) (K : PySem.W.Frag) (W : WX) (s : L2.St) (as : List Addr) (H : Hp) (o : Out α) (Q : β → Hp → Prop) : Prop := match o with
  | .ok a h => ∀ as' H' b, Ext as H as' H' → RelH K as' h H' → R as' H' a b → Q b H'
  | .exc c p h => ExcP K W s as H c p h
  | .bad => False
theorem ExcP.ext {K : PySem.W.Frag} {W : WX} {s : L2.St} {as as' : List Addr} {H H' : Hp} {c : Str} {p : P} {h : AH} (q : ExcP K W s as H c p h) (x : Ext as H as' H') : ExcP K W s as' H' c p h :=
  fun a2 H2 d w x2 r e1 e2 => q a2 H2 d w (x.trans x2) r e1 e2
theorem Post.ext {α β : Type} {R : List Addr → Hp → α → β → Prop} {K : PySem.W.Frag} {W : WX} {s : L2.St} {as as' : List Addr} {H H' : Hp} {o : Out α} {Q : β → Hp → Prop} (q : Post R K W s as H o Q) (x : Ext as H as' H') : Post R K W s as' H' o Q := by
  cases o with
  | ok a h => exact fun a2 H2 b x2 r e => q a2 H2 b (x.trans x2) r e
  | exc c p h => exact ExcP.ext q x
  | bad => exact q
theorem Post.mono {α β : Type} {R : List Addr → Hp → α → β → Prop} {K : PySem.W.Frag} {W : WX} {s : L2.St} {as : List Addr} {H : Hp} {o : Out α} {Q Q' : β → Hp → Prop} (q : Post R K W s as H o Q) (f : ∀ b H', Q b H' → Q' b H') : Post R K W s as H o Q' := by
  cases o with
  | ok a h => exact fun a2 H2 b x2 r e => f _ _ (q a2 H2 b x2 r e)
  | exc c p h => exact q
  | bad => exact q
theorem Post.bind {α β γ δ : Type} {R : List Addr → Hp → α → β → Prop} {R' : List Addr → Hp → γ → δ → Prop} {K : PySem.W.Frag} {W : WX} {s : L2.St} {as : List Addr} {H : Hp} {o : Out α} {f : α → AH → Out γ} {Q : δ → Hp → Prop}
    (q : Post R' K W s as H (o.bind f) Q) : Post R K W s as H o (fun b H1 => ∃ as1 h1 a, Ext as H as1 H1 ∧ RelH K as1 h1 H1 ∧ R as1 H1 a b ∧ Post R' K W s as1 H1 (f a h1) Q) := by
  cases o with
  | ok a h => exact fun a2 H2 b x2 r e => ⟨a2, h, a, x2, r, e, Post.ext (o := f a h) q x2⟩
  | exc c p h => exact q
  | bad => exact q
/-- at once -/
theorem Post.done {α β : Type} {R : List Addr → Hp → α → β → Prop} {K : PySem.W.Frag} {W : WX} {s : L2.St} {as as' : List Addr} {H H' : Hp} {a : α} {h : AH} {b : β} {Q : β → Hp → Prop} (q : Post R K W s as H (.ok a h) Q) (x : Ext as H as' H') (r : RelH K as' h H') (e : R as' H' a b) : Q b H' :=
  q as' H' b x r e

abbrev EM := Loc → AH → Out P
abbrev TM := Loc → AH → Out Bool
abbrev LM := Loc → AH → Out (List P)
abbrev SM := Loc → AH → OutS

def TG_ {α β : Type} (R : List Addr → Hp → α → β → Prop) (K : PySem.W.Frag) (W : WX) (m : Loc → AH → Out α) : L2.St → Hp → (β → Hp → Prop) → Prop := fun s H Q =>
  ∃ as h t, RelH K as h H ∧ RepS K as H t s ∧ Post R K W s as H (m t h) Q
abbrev TEm (K : PySem.W.Frag) (W : WX) (m : EM) : TE := TG_ (Rep K) K W m
abbrev TTm (K : PySem.W.Frag) (W : WX) (m : TM) : TT := TG_ (fun _ _ a b => a = b) K W m
abbrev TAm (K : PySem.W.Frag) (W : WX) (m : LM) : TA := TG_ (Reps K) K W m
def PostS (K : PySem.W.Frag) (W : WX) (as : List Addr) (H : Hp) (o : OutS) (D : Ends) : Prop := match o with
  | .nx t h => ∀ as' H' s', Ext as H as' H' → RelH K as' h H' → RepS K as' H' t s' → D.nx s' H'
  | .bk t h => ∀ as' H' s', Ext as H as' H' → RelH K as' h H' → RepS K as' H' t s' → D.bk s' H'
  | .ct t h => ∀ as' H' s', Ext as H as' H' → RelH K as' h H' → RepS K as' H' t s' → D.ct s' H'
  | .rt p h => ∀ as' H' v, Ext as H as' H' → RelH K as' h H' → Rep K as' H' p v → D.rt v H'
  | .exc c p t h => ∀ as' H' s' d w, Ext as H as' H' → RelH K as' h H' → RepS K as' H' t s' → H' d = some (.xd [(("value" : Str), w)]) → Rep K as' H' p w → W (.ref (He.ga K c)) (some d) s' H'
  | .bad => False
def TSm (K : PySem.W.Frag) (W : WX) (m : SM) : TS := fun D s H => ∃ as h t, RelH K as h H ∧ RepS K as H t s ∧ PostS K W as H (m t h) D
theorem PostS.ext {K : PySem.W.Frag} {W : WX} {as as' : List Addr} {H H' : Hp} {o : OutS} {D : Ends} (q : PostS K W as H o D) (x : Ext as H as' H') : PostS K W as' H' o D := by
  cases o with
  | nx t h => exact fun a2 H2 b x2 r e => q a2 H2 b (x.trans x2) r e
  | bk t h => exact fun a2 H2 b x2 r e => q a2 H2 b (x.trans x2) r e
  | ct t h => exact fun a2 H2 b x2 r e => q a2 H2 b (x.trans x2) r e
  | rt p h => exact fun a2 H2 b x2 r e => q a2 H2 b (x.trans x2) r e
  | exc c p t h => exact fun a2 H2 s d w x2 r e => q a2 H2 s d w (x.trans x2) r e
  | bad => exact q

/-! ### judgements -/
abbrev PEm (X : Cx) (W : WX) (e : Expr) (m : EM) : Prop := PE X e (TEm X.K W m)
abbrev PTm (X : Cx) (W : WX) (e : Expr) (m : TM) : Prop := PT X e (TTm X.K W m)
abbrev PWm (X : Cx) (W : WX) (e : Expr) (m : TM) : Prop := PW X e (TTm X.K W m)
abbrev PAm (X : Cx) (W : WX) (es : List Expr) (m : LM) : Prop := PA X es (TAm X.K W m)
abbrev PSm (X : Cx) (W : WX) (st : Stmt) (m : SM) : Prop := PS X st (TSm X.K W m)
abbrev PSsm (X : Cx) (W : WX) (st : List Stmt) (m : SM) : Prop := PSs X st (TSm X.K W m)
theorem PE_imp {X : Cx} {e : Expr} {t t' : TE} (h : PE X e t) (i : ∀ s H Q, t' s H Q → t s H Q) : PE X e t' := ⟨fun pins s σ H Q I q => h.run pins s σ H Q I (i _ _ _ q)⟩
theorem PT_imp {X : Cx} {e : Expr} {t t' : TT} (h : PT X e t) (i : ∀ s H Q, t' s H Q → t s H Q) : PT X e t' := ⟨fun pins s σ H Q I q => h.run pins s σ H Q I (i _ _ _ q)⟩
theorem PW_imp {X : Cx} {e : Expr} {t t' : TT} (h : PW X e t) (i : ∀ s H Q, t' s H Q → t s H Q) : PW X e t' := ⟨fun wh pins s σ H Q I q => h.run wh pins s σ H Q I (i _ _ _ q)⟩
theorem PA_imp {X : Cx} {e : List Expr} {t t' : TA} (h : PA X e t) (i : ∀ s H Q, t' s H Q → t s H Q) : PA X e t' := ⟨fun pos pins s σ H Q I q => h.run pos pins s σ H Q I (i _ _ _ q)⟩
theorem PS_imp {X : Cx} {e : Stmt} {t t' : TS} (h : PS X e t) (i : ∀ D s H, t' D s H → t D s H) : PS X e t' := ⟨fun pins s σ H Q I q => h.run pins s σ H Q I (i _ _ _ q)⟩
theorem PSs_imp {X : Cx} {e : List Stmt} {t t' : TS} (h : PSs X e t) (i : ∀ D s H, t' D s H → t D s H) : PSs X e t' := ⟨fun pins s σ H Q I q => h.run pins s σ H Q I (i _ _ _ q)⟩
end AM

/-! AM2: defs by the abstract machine: a promise that knows that no repr is running; calls of every form. -/
namespace AM
open PySem PySem.Spec PyProof.Rows L2

/-- a def's promise where no repr is running -/
structure FnG (Pr : Program) (w : World) (K : PySem.W.Frag) (mg : Str → Option Value) (base : Heap) (k : Nat) (f : Addr) (fd : FuncData) (ps : List Str) (sp : Sp) : Prop where
  len : ∀ vs H Q E, sp vs H Q E → vs.length = ps.length
  run : ∀ (A : Around) (outer : List Env) (s : Shared) (H : Hp) (args : Args) (us : List Value) (vs : List V) (Q : VK) (E : XK), Room k A → A.guards = some [] →
    Env0 Pr w K mg base A outer s H → BindsTo s fd args (ps.zip us) → Vals vs us → sp vs H Q E → codeAny (model Pr w) A (.call (.ref f) args) (CR (CX Pr w) outer Pr w H s Q E) s
theorem FnG.mono {Pr : Program} {w : World} {K : PySem.W.Frag} {mg : Str → Option Value} {base : Heap} {j k : Nat} {f : Addr} {fd : FuncData} {ps : List Str} {sp : Sp}
    (F : FnG Pr w K mg base j f fd ps sp) (h : j ≤ k) : FnG Pr w K mg base k f fd ps sp :=
  ⟨F.len, fun A outer s H args us vs Q E hr hg => F.run A outer s H args us vs Q E (hr.mono h) hg⟩

/-- what a def's body may lean on -/
structure Here (X : Cx) (k : Nat) : Prop where
  room : Room k X.A
  gd : X.A.guards = some []

theorem fnG_of {Pr : Program} {w : World} {K : PySem.W.Frag} {mg : Str → Option Value} {base : Heap} {k : Nat} {x qual : Str} {params : Arguments} {body : List Stmt} {scope : Scope} {f : Addr} {fd : FuncData}
    {N ps : List Str} {sp : Sp} (F : FunD K x qual params body scope [] [] f fd) (S : FnScope N ps scope) (len : ∀ vs H Q E, sp vs H Q E → vs.length = ps.length)
    (hb : ∀ (cdv : Value) (A : Around) (outer : List Env) (s : Shared) (H : Hp) (vs : List V) (Q : VK) (E : XK), Here (cxOf (CX Pr w) Pr w K mg base N qual scope f cdv A outer s H E) k → sp vs H Q E →
      ∃ t, PSs (cxOf (CX Pr w) Pr w K mg base N qual scope f cdv A outer s H E) body t ∧ t { nx := fun _ H' => Q .non H', rt := Q } (L2.start N vs) H) :
    FnG Pr w K mg base (k + 1) f fd ps sp := by
  obtain ⟨oc, od, dV, kV, doc, pm, an, cdv, ct, osl, rfl, lk, hcd, _, _⟩ := F.ex
  refine ⟨len, fun A outer s H args us vs Q E hr hg e0 bt r q => ?_⟩
  have inK : K.In s.heap := e0.mod.kin.keeps fun b o z => (e0.bs b o z).1
  have nl : s.heap.NoLimit := e0.mod.nolimit.keeps fun b o z => (e0.bs b o z).1
  have kinds : ∀ y ∈ ps.zip us, scope.names.lookup y.1 = some .local ∨
      (scope.names.lookup y.1 = some .cell ∧ ((cellsFrom (s.heap.objs.size + 1) scope.names []).lookup y.1).isSome = true) := by
    intro y hy
    rcases S.par y.1 (List.of_mem_zip (show (y.1, y.2) ∈ ps.zip us from hy)).1 with z | z
    · exact .inl z
    · exact .inr ⟨z, PySem.W.cellsFrom_some _ _ _ (.inl z)⟩
  refine codeAny_call_function hr.depth (inK _ _ lk) rfl S.co S.gen rfl (PySem.W.codeRec_of inK hcd) (bt _ _ _ _ ?_)
  refine wpAny_newFunctionEnv_cells S.kind kinds fun env he s1 x => ?_
  subst he
  refine ⟨nl.keeps x.toInCall.keep, codeAny_func ?_⟩
  obtain ⟨t, ht, hq⟩ := hb cdv A outer s H vs Q E ⟨hr.deeper _, hg⟩ q
  have I := inv_start (CX := CX Pr w) (w := w) (qual := qual) (f := f) (cd := cdv) (E := E) S hr.hd e0 (len _ _ _ _ q) r x
  refine wpAny_mono (ht.run [] s1 (L2.start N vs) H _ I hq) (fun fl s' z => ?_) fun _ _ z => z
  cases fl with
  | ret u =>
    obtain ⟨v, _, H', J, rv, qv⟩ := z
    exact ⟨v, H', J.os, J.bare, J.base, J.hok, rv, qv⟩
  | next =>
    obtain ⟨_, H', J, qv⟩ := z
    exact ⟨V.non, H', J.os, J.bare, J.base, J.hok, rfl, qv⟩
  | brk =>
    obtain ⟨_, _, _, no⟩ := z
    exact no.elim
  | cont =>
    obtain ⟨_, _, _, no⟩ := z
    exact no.elim

/-! ### what a def leaves behind -/
mutual
/-- no object from the n-th on -/
def clean (n : Nat) : P → Bool
  | .obj k => decide (k < n)
  | .tup xs => cleans n xs
  | .lst xs => cleans n xs
  | .scr xs => cleans n xs
  | _ => true
def cleans (n : Nat) : List P → Bool
  | [] => true
  | p :: ps => clean n p && cleans n ps
end
def cleanO (n : Nat) : O → Bool
  | .lst xs => cleans n xs
  | .dct kvs => cleans n (kvs.map (·.2))
  | .ins _ fs => fs.all fun
    | some p => clean n p
    | none => true
mutual
theorem rep_clean {K : PySem.W.Frag} {as : List Addr} {H : Hp} : ∀ {p : P} {v : V}, Rep K as H p v → clean as.length p = true
  | .non, _, _ => rfl
  | .bl _, _, _ => rfl
  | .int _, _, _ => rfl
  | .str _, _, _ => rfl
  | .cls _, _, _ => rfl
  | .tup xs, _, r => by
    unfold Rep at r
    obtain ⟨a, vs, _, _, q⟩ := r
    exact reps_clean q
  | .lst xs, _, r => by
    unfold Rep at r
    obtain ⟨a, vs, _, _, _, q⟩ := r
    exact reps_clean q
  | .scr xs, _, r => by
    unfold Rep at r
    obtain ⟨a, vs, o, _, _, _, q⟩ := r
    exact reps_clean q
  | .obj n, _, r => by
    unfold Rep at r
    obtain ⟨a, _, q⟩ := r
    exact decide_eq_true (List.getElem?_eq_some_iff.mp q).1
theorem reps_clean {K : PySem.W.Frag} {as : List Addr} {H : Hp} : ∀ {p : List P} {v : List V}, Reps K as H p v → cleans as.length p = true
  | [], _, _ => rfl
  | _ :: _, _, r => by
    obtain ⟨v, vs, _, r1, r2⟩ := reps_inv r
    show (clean _ _ && cleans _ _) = true
    rw [rep_clean r1, reps_clean r2]
    rfl
end
theorem repH_clean {K : PySem.W.Frag} {as : List Addr} {H : Hp} {o : O} {a : Addr} (r : RepH K as H o a) : cleanO as.length o = true := by
  cases o with
  | lst xs => obtain ⟨vs, _, q⟩ := r; exact reps_clean q
  | dct kvs => obtain ⟨ws, _, _, q⟩ := r; exact reps_clean q
  | ins C fs =>
    obtain ⟨dx, vs, _, q⟩ := r
    unfold cleanO
    rw [List.all_eq_true]
    intro x hx
    cases x with
    | none => rfl
    | some p =>
      obtain ⟨i, hi, e⟩ := List.getElem_of_mem hx
      obtain ⟨v, _, rv⟩ := q i p (by rw [List.getElem?_eq_getElem hi, e])
      exact rep_clean rv
mutual
theorem Rep.down {K : PySem.W.Frag} {as bs : List Addr} {H : Hp} : ∀ {p : P} {v : V}, Rep K (as ++ bs) H p v → clean as.length p = true → Rep K as H p v
  | .non, _, r, _ => r
  | .bl _, _, r, _ => r
  | .int _, _, r, _ => r
  | .str _, _, r, _ => r
  | .cls _, _, r, _ => r
  | .tup xs, _, r, c => by
    unfold Rep at r ⊢
    obtain ⟨a, vs, e, t, q⟩ := r
    refine ⟨a, vs, e, ?_, Reps.down q c⟩
    rcases t with ⟨n, t⟩ | t
    · exact .inl ⟨fun z => n (List.mem_append_left _ z), t⟩
    · exact .inr t
  | .lst xs, _, r, c => by
    unfold Rep at r ⊢
    obtain ⟨a, vs, e, n, t, q⟩ := r
    exact ⟨a, vs, e, fun z => n (List.mem_append_left _ z), t, Reps.down q c⟩
  | .scr xs, _, r, c => by
    unfold Rep at r ⊢
    obtain ⟨a, vs, o, e, n, t, q⟩ := r
    exact ⟨a, vs, o, e, fun z => n (List.mem_append_left _ z), t, Reps.down q c⟩
  | .obj n, _, r, c => by
    unfold Rep at r ⊢
    obtain ⟨a, e, q⟩ := r
    have l : n < as.length := of_decide_eq_true c
    rw [List.getElem?_append_left l] at q
    exact ⟨a, e, q⟩
theorem Reps.down {K : PySem.W.Frag} {as bs : List Addr} {H : Hp} : ∀ {p : List P} {v : List V}, Reps K (as ++ bs) H p v → cleans as.length p = true → Reps K as H p v
  | [], _, r, _ => by
    rw [reps_inv0 r]
    exact reps_nil
  | p :: ps, _, r, c => by
    obtain ⟨v, vs, rfl, r1, r2⟩ := reps_inv r
    have c : (clean as.length p && cleans as.length ps) = true := c
    rw [Bool.and_eq_true] at c
    exact reps_cons (Rep.down r1 c.1) (Reps.down r2 c.2)
end
theorem RepH.down {K : PySem.W.Frag} {as bs : List Addr} {H : Hp} {o : O} {a : Addr} (r : RepH K (as ++ bs) H o a) (c : cleanO as.length o = true) : RepH K as H o a := by
  cases o with
  | lst xs => obtain ⟨vs, q1, q⟩ := r; exact ⟨vs, q1, q.down c⟩
  | dct kvs => obtain ⟨ws, q1, q2, q⟩ := r; exact ⟨ws, q1, q2, q.down c⟩
  | ins C fs =>
    obtain ⟨dx, vs, q1, q⟩ := r
    refine ⟨dx, vs, q1, fun i p e => ?_⟩
    obtain ⟨v, e1, e2⟩ := q i p e
    unfold cleanO at c
    rw [List.all_eq_true] at c
    exact ⟨v, e1, e2.down (c (some p) (List.mem_of_getElem? e))⟩
/-- the first n objects stand by themselves: as they stood, or clean -/
def Shut (h0 h : AH) : Prop := ∀ (i : Nat) (o : O), i < h0.length → h[i]? = some o → h0[i]? = some o ∨ cleanO h0.length o = true
theorem rel_down {K : PySem.W.Frag} {as as' : List Addr} {h0 h : AH} {H H' : Hp} (r0 : RelH K as h0 H) (x : Ext as H as' H') (r : RelH K as' h H') (c : Shut h0 h) : Ext as H as H' ∧ RelH K as (h.take h0.length) H' := by
  obtain ⟨bs, rfl⟩ := x.pre
  have ll := r.len
  rw [List.length_append] at ll
  refine ⟨⟨⟨[], by simp⟩, fun b o e n m => ?_⟩, ?_, ?_, fun i o e => ?_⟩
  · exact ⟨(x.keep b o e n m).1, n⟩
  · rw [List.length_take, ← r0.len]; omega
  · have z := r.nd
    rw [List.nodup_append] at z
    exact z.1
  · rw [List.getElem?_take] at e
    split at e
    · rename_i hi
      obtain ⟨a, e1, e2⟩ := r.at_ i o e
      rw [List.getElem?_append_left (by rw [r0.len]; exact hi)] at e1
      refine ⟨a, e1, e2.down ?_⟩
      rcases c i o hi e with z | z
      · obtain ⟨b, _, e3⟩ := r0.at_ i o z
        exact repH_clean e3
      · rw [r0.len]; exact z
    · cases e
open Classical in
/-- what is not handed out is forgotten -/
noncomputable def trim (h0 : AH) (p : P) (h : AH) : AH := if clean h0.length p = true ∧ Shut h0 h then h.take h0.length else h
theorem trim_ok {K : PySem.W.Frag} {as as' : List Addr} {h0 h : AH} {H H' : Hp} {p : P} {v : V} (r0 : RelH K as h0 H) (x : Ext as H as' H') (r : RelH K as' h H') (rv : Rep K as' H' p v) : ∃ as2, Ext as H as2 H' ∧ RelH K as2 (trim h0 p h) H' ∧ Rep K as2 H' p v := by
  unfold trim
  split
  · rename_i c
    obtain ⟨x2, r2⟩ := rel_down r0 x r c.2
    obtain ⟨bs, rfl⟩ := x.pre
    exact ⟨as, x2, r2, rv.down (by rw [r0.len]; exact c.1)⟩
  · exact ⟨as', x, r, rv⟩
theorem shut_app (h0 j : AH) : Shut h0 (h0 ++ j) := fun i o hi e => .inl (by rw [List.getElem?_append_left hi] at e; exact e)
theorem trim_app {h0 j : AH} {p : P} (c : clean h0.length p = true) : trim h0 p (h0 ++ j) = h0 := by
  unfold trim
  rw [if_pos ⟨c, shut_app h0 j⟩]
  simp
theorem trim_self {h0 : AH} {p : P} : trim h0 p h0 = h0 := by
  unfold trim
  split <;> simp

/-! ### functions of the machine -/
abbrev Fn := List P → AH → Out P
/-- a def's promise by its meaning -/
def spOf (K : PySem.W.Frag) (n : Nat) (m : Fn) : Sp := fun vs H Q E => ∃ as h xs, RelH K as h H ∧ Reps K as H xs vs ∧ xs.length = n ∧
  Post (Rep K) K (fun c d _ H' => E c d H') [] as H (m xs h) Q
/-- the meaning of a def by its body's: ns slots -/
noncomputable def mkFn (ns : Nat) (b : SM) : Fn := fun xs h => match b (xs.map some ++ List.replicate (ns - xs.length) none) h with
  | .nx _ h' => .ok .non (trim h .non h')
  | .rt p h' => .ok p (trim h p h')
  | .exc c p _ h' => .exc c p (trim h p h')
  | _ => .bad
theorem reps_start {K : PySem.W.Frag} {as : List Addr} {H : Hp} {xs : List P} {vs : List V} {N : List Str} (r : Reps K as H xs vs) :
    RepS K as H (xs.map some ++ List.replicate (N.length - xs.length) none) (L2.start N vs) := by
  have l := r.len
  unfold L2.start
  refine ⟨by simp [l], fun i p e => ?_⟩
  by_cases hi : i < xs.length
  · rw [List.getElem?_append_left (by simpa using hi), List.getElem?_map] at e
    cases q : xs[i]? with
    | none => rw [q] at e; cases e
    | some y =>
      rw [q] at e
      have ey : y = p := Option.some.inj (Option.some.inj e)
      subst ey
      obtain ⟨v, e1, e2⟩ := r.get q
      refine ⟨v, ?_, e2⟩
      rw [List.getElem?_append_left (by simp only [List.length_map]; omega), List.getElem?_map, e1]
      rfl
  · rw [List.getElem?_append_right (by simpa using hi), List.getElem?_replicate] at e
    split at e <;> cases e
theorem spOf_len {K : PySem.W.Frag} {n : Nat} {m : Fn} : ∀ vs H Q E, spOf K n m vs H Q E → vs.length = n := fun vs H Q E h => by
  obtain ⟨as, h, xs, _, r, l, _⟩ := h
  rw [← r.len, l]

/-- a def of the text keeps the promise of its meaning -/
theorem fnG_mk {Pr : Program} {w : World} {K : PySem.W.Frag} {mg : Str → Option Value} {base : Heap} {k : Nat} {x qual : Str} {params : Arguments} {body : List Stmt} {scope : Scope} {f : Addr} {fd : FuncData}
    {N ps : List Str} {b : SM} (F : FunD K x qual params body scope [] [] f fd) (S : FnScope N ps scope)
    (hb : ∀ (cdv : Value) (A : Around) (outer : List Env) (s : Shared) (H : Hp) (E : XK), Here (cxOf (CX Pr w) Pr w K mg base N qual scope f cdv A outer s H E) k → Takes (cxOf (CX Pr w) Pr w K mg base N qual scope f cdv A outer s H E) (fun c d _ H' => E c d H') →
      PassesOwn (model Pr w) (cxOf (CX Pr w) Pr w K mg base N qual scope f cdv A outer s H E).A (cxOf (CX Pr w) Pr w K mg base N qual scope f cdv A outer s H E).env (cxOf (CX Pr w) Pr w K mg base N qual scope f cdv A outer s H E).xe → PSsm (cxOf (CX Pr w) Pr w K mg base N qual scope f cdv A outer s H E) (fun c d _ H' => E c d H') body b) :
    FnG Pr w K mg base (k + 1) f fd ps (spOf K ps.length (mkFn N.length b)) := by
  refine fnG_of F S spOf_len fun cdv A outer s H vs Q E hk q => ?_
  refine ⟨_, hb cdv A outer s H E hk (takes_of rfl rfl rfl rfl) (passes_of (X := cxOf (CX Pr w) Pr w K mg base N qual scope f cdv A outer s H E) (K := fun e s' => CX Pr w outer H s E e s') rfl), ?_⟩
  obtain ⟨as, h, xs, rh, r, l, q⟩ := q
  refine ⟨as, h, _, rh, reps_start r, ?_⟩
  unfold mkFn at q
  cases z : b (xs.map some ++ List.replicate (N.length - xs.length) none) h with
  | nx t h' =>
    rw [z] at q
    intro as' H' s' x2 r2 _
    obtain ⟨as2, x3, r3, rv⟩ := trim_ok (p := .non) (v := V.non) rh x2 r2 (by unfold Rep; rfl)
    exact q as2 H' V.non x3 r3 rfl
  | rt p h' =>
    rw [z] at q
    intro as' H' v x2 r2 rv
    obtain ⟨as2, x3, r3, rv2⟩ := trim_ok rh x2 r2 rv
    exact q as2 H' v x3 r3 rv2
  | exc c p t h' =>
    rw [z] at q
    intro as' H' s' d w x2 r2 _ e1 e2
    obtain ⟨as2, x3, r3, rv2⟩ := trim_ok rh x2 r2 e2
    exact q as2 H' d w x3 r3 e1 rv2
  | bk t h' => rw [z] at q; exact q.elim
  | ct t h' => rw [z] at q; exact q.elim
  | bad => rw [z] at q; exact q.elim
end AM

/-! AM3: names, constants, arguments, calls of defs. -/
namespace AM
open PySem PySem.Spec PyProof.Rows L2
section
variable {X : Cx} {W : WX}

/-! ### names and constants -/
def eV (i : Nat) : EM := fun t h => match t[i]? with
  | some (some p) => .ok p h
  | _ => .bad
def eC (p : P) : EM := fun _ h => .ok p h
theorem w_var (i : Nat) {x : Str} {pos : Pos} (hN : X.N[i]? = some x := by rfl) (hv : Vis X.env.scope x := by first | exact Or.inl rfl | exact Or.inr (Or.inl rfl) | exact Or.inr (Or.inr rfl))
    (hd : (x == ("__debug__" : Str)) = false := by decide) (hc : (x == ("__classdict__" : Str)) = false := by decide) : PEm X W (.Name x pos) (eV i) := by
  refine PE_imp (pe_var hN hv hd hc) fun s H Q q => ?_
  obtain ⟨as, h, t, rh, rs, q⟩ := q
  unfold eV at q
  split at q
  · rename_i p e
    obtain ⟨v, e1, e2⟩ := rs.2 i p e
    exact ⟨v, e1, Post.done q (Ext.refl _ _) rh e2⟩
  · exact q.elim
theorem w_of_const {e : Expr} {v : V} {p : P} (he : PE X e (tC v)) (hp : ∀ as H, Rep X.K as H p v) : PEm X W e (eC p) := by
  refine PE_imp he fun s H Q q => ?_
  obtain ⟨as, h, t, rh, rs, q⟩ := q
  exact Post.done q (Ext.refl _ _) rh (hp as H)
theorem w_int {i j pos} : PEm X W (.Constant (.int i) j pos) (eC (.int i)) := w_of_const pe_int fun _ _ => rfl
theorem w_bl {b j pos} : PEm X W (.Constant (.bool b) j pos) (eC (.bl b)) := w_of_const pe_bl fun _ _ => rfl
theorem w_non {j pos} : PEm X W (.Constant .none j pos) (eC .non) := w_of_const pe_non fun _ _ => rfl
theorem w_str {x j pos} : PEm X W (.Constant (.str x) j pos) (eC (.str x)) := w_of_const pe_str fun _ _ => rfl
/-- a constant of the module -/
structure Glo (K : PySem.W.Frag) (mg : Str → Option Value) (x : Str) (p : P) : Prop where
  ex : ∃ v u, mg x = some u ∧ RelV v u ∧ ∀ as H, Rep K as H p v
theorem w_glo {x : Str} {p : P} {pos : Pos} (g : Glo X.K X.mg x p) (hg : Gl X x := by rfl) (hd : (x == ("__debug__" : Str)) = false := by decide) : PEm X W (.Name x pos) (eC p) := by
  obtain ⟨v, u, h1, h2, h3⟩ := g.ex
  exact w_of_const (pe_glob hg h1 h2 hd) h3

/-! ### arguments -/
def lN : LM := fun _ h => .ok [] h
def lC (m : EM) (r : LM) : LM := fun t h => (m t h).bind fun p h1 => (r t h1).bind fun ps h2 => .ok (p :: ps) h2
theorem wa_nil : PAm X W [] lN := PA_imp pa_nil fun s H Q q => by
  obtain ⟨as, h, t, rh, rs, q⟩ := q
  exact Post.done q (Ext.refl _ _) rh reps_nil
theorem wa_cons {e : Expr} {es : List Expr} {m : EM} {r : LM} (he : PEm X W e m) (hr : PAm X W es r) (hs : starEach (e :: es) X.env = (false, eval e X.env) :: starEach es X.env := by rfl) : PAm X W (e :: es) (lC m r) := by
  refine PA_imp (pa_cons he hr hs) fun s H Q q => ?_
  obtain ⟨as, h, t, rh, rs, q⟩ := q
  refine ⟨as, h, t, rh, rs, (Post.bind (R := Rep X.K) q).mono fun v H1 z => ?_⟩
  obtain ⟨as1, h1, p, x1, r1, e1, q1⟩ := z
  refine ⟨as1, h1, t, r1, rs.mono x1, (Post.bind (R := Reps X.K) q1).mono fun vs H2 z => ?_⟩
  obtain ⟨as2, h2, ps, x2, r2, e2, q2⟩ := z
  exact Post.done q2 (Ext.refl _ _) r2 (reps_cons (e1.mono x2) e2)

/-! ### the call of a def -/
theorem run_G {k n : Nat} {f : Addr} {fd : FuncData} {ps : List Str} {m : Fn} {pins : List (Addr × Obj)} {σ : L2.St} {H : Hp} {s : Shared} {Q : VK} {args : Args} {us : List Value} {vs : List V} {as : List Addr} {h : AH} {xs : List P} {A : Around}
    (F : FnG X.prog X.w X.K X.mg X.base k f fd ps (spOf X.K n m)) (hr : Room k A) (hg : A.guards = some []) (e0 : Env0 X.prog X.w X.K X.mg X.base A X.stack s H) (tk : Takes X W) (I : Inv X pins σ H s) (b : BindsTo s fd args (ps.zip us)) (r : Vals vs us)
    (rh : RelH X.K as h H) (rv : Reps X.K as H xs vs) (l : xs.length = n) (q : Post (Rep X.K) X.K W σ as H (m xs h) Q) :
    codeAny (model X.prog X.w) A (.call (.ref f) args) (fun r s' => match r with | .ok (.ret v) => EP X pins σ Q v s' | .ok _ => False | .error e => X.xe e s') s := by
  refine codeAny_mono (F.run A X.stack s H args us vs Q (fun c d H' => W c d σ H') hr hg e0 b r ⟨as, h, xs, rh, rv, l, q⟩) fun r s' z => ?_
  cases r with
  | error e => exact tk e s' (XE.of_call I (fun _ _ _ z => z) z)
  | ok fl =>
    cases fl with
    | ret u => exact I.after z
    | next => exact z.elim
    | brk => exact z.elim
    | cont => exact z.elim

/-- a def of the module, by its name -/
structure Has (Pr : Program) (w : World) (K : PySem.W.Frag) (mg : Str → Option Value) (base : Heap) (x : Str) (params : Arguments) (ps : List Str) (k : Nat) (m : Fn) : Prop where
  ex : ∃ f fd qual body scope, mg x = some (.ref f) ∧ FnG Pr w K mg base k f fd ps (spOf K ps.length m) ∧ FunD K x qual params body scope [] [] f fd
def eCall (n : Nat) (m : Fn) (a : LM) : EM := fun t h => (a t h).bind fun xs h1 => if xs.length = n then m xs h1 else .bad
/-- positional arguments bind one by one -/
def BindP (params : Arguments) (ps : List Str) : Prop := ∀ (x qual : Str) (body : List Stmt) (scope : Scope) (kV doc pm : Value) (an : Option Addr) (cdv ct : Value) (us : List Value), us.length = ps.length →
  bindArgs (PySem.W.fnOf x qual params body scope .none kV doc pm an cdv ct) ⟨us, []⟩ = pure (ps.zip us)
theorem w_call {k n : Nat} {x : Str} {params : Arguments} {ps : List Str} {m : Fn} {e : Expr} {es : List Expr} {a : LM} {p pos : Pos} (F : Has X.prog X.w X.K X.mg X.base x params ps k m) (hb : BindP params ps) (hk : Here X k) (tk : Takes X W)
    (ha : PAm X W (e :: es) a) (hn : ps.length = n := by rfl) (hg : Gl X x := by rfl) (hd : (x == ("__debug__" : Str)) = false := by decide) (he : starEach (e :: es) X.env = (false, eval e X.env) :: starEach es X.env := by rfl)
    (hpl : (backTo pos (starEach es X.env)).any (·.1) = false := by rfl) : PEm X W (.Call (.Name x p) (e :: es) [] pos) (eCall n m a) := by
  obtain ⟨f, fd, qual, body, scope, hm, G, D⟩ := F.ex
  subst hn
  refine ⟨fun pins s σ H Q I q => ?_⟩
  obtain ⟨as, h, t, rh, rs, q⟩ := q
  refine wpAny_Call_Name_kw (ld_glob I hg hm ?_ hd)
  refine PySem.W.callWith_K (h₀ := X.base) I.ok.mod.kin D.kp (thn (ha.run pos pins s σ H _ I ⟨as, h, t, rh, rs, Post.bind (R := Reps X.K) q⟩) fun us s1 z => ?_) he hpl
  obtain ⟨vs, H1, I1, r, as1, h1, xs, x1, r1, e1, q1⟩ := z
  refine ⟨I1.kIn, ?_⟩
  split at q1
  · rename_i l
    refine wpAny_call (run_G G hk.room hk.gd I1.env0 tk I1 ?_ r r1 e1 l q1)
    exact D.bindsA (fun kV doc pm an cdv ct us hl => hb x qual body scope kV doc pm an cdv ct us hl) _ us (by rw [← r.length, ← e1.len, l])
  · exact q1.elim
end
end AM

/-! AM4: calls without arguments, with keywords; methods, properties, new instances. -/
namespace AM
open PySem PySem.Spec PyProof.Rows L2
section
variable {X : Cx} {W : WX}
theorem w_call0 {k : Nat} {x : Str} {params : Arguments} {m : Fn} {p pos : Pos} (F : Has X.prog X.w X.K X.mg X.base x params [] k m) (hb : BindP params []) (hk : Here X k) (tk : Takes X W)
    (hg : Gl X x := by rfl) (hd : (x == ("__debug__" : Str)) = false := by decide) : PEm X W (.Call (.Name x p) [] [] pos) (eCall 0 m lN) := by
  obtain ⟨f, fd, qual, body, scope, hm, G, D⟩ := F.ex
  refine ⟨fun pins s σ H Q I q => ?_⟩
  obtain ⟨as, h, t, rh, rs, q⟩ := q
  refine wpAny_Call_Name_kw (ld_glob I hg hm ?_ hd)
  refine PySem.W.callWith_K0 I.kIn D.kp (wpAny_call (run_G G hk.room hk.gd I.env0 tk I ?_ .nil rh reps_nil rfl q))
  exact D.bindsA (fun kV doc pm an cdv ct us hl => hb x qual body scope kV doc pm an cdv ct us hl) _ [] rfl

/-! ### keywords -/
def permL {α : Type} (perm : List Nat) (us ws : List α) : List α := perm.filterMap fun i => (us ++ ws)[i]?
theorem Reps.perm {K : PySem.W.Frag} {as : List Addr} {H : Hp} {xs : List P} {vs : List V} (r : Reps K as H xs vs) : ∀ perm : List Nat, Reps K as H (perm.filterMap fun i => xs[i]?) (perm.filterMap fun i => vs[i]?)
  | [] => reps_nil
  | i :: is => by
    rw [List.filterMap_cons, List.filterMap_cons]
    by_cases hi : i < xs.length
    · obtain ⟨v, e1, e2⟩ := r.get (i := i) (p := xs[i]) (by simp [hi])
      rw [e1]
      simp only [List.getElem?_eq_getElem hi]
      exact reps_cons e2 (Reps.perm r is)
    · have hv : ¬ i < vs.length := by rw [← r.len]; exact hi
      simp only [List.getElem?_eq_none (Nat.not_lt.mp hi), List.getElem?_eq_none (Nat.not_lt.mp hv)]
      exact Reps.perm r is
theorem vals_perm {vs : List V} {us : List Value} (r : Vals vs us) : ∀ perm : List Nat, Vals (perm.filterMap fun i => vs[i]?) (perm.filterMap fun i => us[i]?)
  | [] => .nil
  | i :: is => by
    rw [List.filterMap_cons, List.filterMap_cons]
    by_cases hi : i < vs.length
    · obtain ⟨v, e1, e2⟩ := r.get (i := i) (x := vs[i]) (by simp [hi])
      rw [e1]
      simp only [List.getElem?_eq_getElem hi]
      exact .cons e2 (vals_perm r is)
    · have hv : ¬ i < us.length := by rw [← r.length]; exact hi
      simp only [List.getElem?_eq_none (Nat.not_lt.mp hi), List.getElem?_eq_none (Nat.not_lt.mp hv)]
      exact vals_perm r is
abbrev PKm (X : Cx) (W : WX) (kws : List Keyword) (m : LM) : Prop := PK X kws (TAm X.K W m)
theorem PK_imp {kws : List Keyword} {t t' : TA} (h : PK X kws t) (i : ∀ s H Q, t' s H Q → t s H Q) : PK X kws t' := ⟨fun pos pins s σ H Q I q => h.run pos pins s σ H Q I (i _ _ _ q)⟩
theorem wk_nil : PKm X W [] lN := PK_imp pk_nil fun s H Q q => by
  obtain ⟨as, h, t, rh, rs, q⟩ := q
  exact Post.done q (Ext.refl _ _) rh reps_nil
theorem wk_cons {nm : Option Str} {kpos : Pos} {e : Expr} {es : List Keyword} {m : EM} {r : LM} (he : PEm X W e m) (hr : PKm X W es r) : PKm X W (⟨nm, e, kpos⟩ :: es) (lC m r) := by
  refine PK_imp (pk_cons he hr) fun s H Q q => ?_
  obtain ⟨as, h, t, rh, rs, q⟩ := q
  refine ⟨as, h, t, rh, rs, (Post.bind (R := Rep X.K) q).mono fun v H1 z => ?_⟩
  obtain ⟨as1, h1, p, x1, r1, e1, q1⟩ := z
  refine ⟨as1, h1, t, r1, rs.mono x1, (Post.bind (R := Reps X.K) q1).mono fun vs H2 z => ?_⟩
  obtain ⟨as2, h2, ps, x2, r2, e2, q2⟩ := z
  exact Post.done q2 (Ext.refl _ _) r2 (reps_cons (e1.mono x2) e2)
def eCallK (n nk np : Nat) (perm : List Nat) (m : Fn) (a b : LM) : EM := fun t h => (a t h).bind fun xs h1 => (b t h1).bind fun ys h2 =>
  if xs.length = n ∧ ys.length = nk ∧ (permL perm xs ys).length = np then m (permL perm xs ys) h2 else .bad
def BindK (params : Arguments) (ps : List Str) (n : Nat) (ks : List Str) (perm : List Nat) : Prop := ∀ (x qual : Str) (body : List Stmt) (scope : Scope) (kV doc pm : Value) (an : Option Addr) (cdv ct : Value) (us ws : List Value), us.length = n → ws.length = ks.length →
  bindArgs (PySem.W.fnOf x qual params body scope .none kV doc pm an cdv ct) ⟨us, ks.zip ws⟩ = pure (ps.zip (permL perm us ws))
theorem FunD.bindK {K : PySem.W.Frag} {x qual : Str} {params : Arguments} {body : List Stmt} {scope : Scope} {f : Addr} {fd : FuncData} {ps ks : List Str} {n : Nat} {perm : List Nat} (D : FunD K x qual params body scope [] [] f fd) (hb : BindK params ps n ks perm)
    (s : Shared) (us ws : List Value) (l1 : us.length = n) (l2 : ws.length = ks.length) : BindsTo s fd ⟨us, ks.zip ws⟩ (ps.zip (permL perm us ws)) := by
  obtain ⟨oc, od, dV, kV, doc, pm, an, cdv, ct, osl, rfl, lk, hcd, hD, hK⟩ := D.ex
  rcases hD with ⟨_, rfl⟩ | ⟨z, _⟩
  · exact .of_eq (hb x qual body scope kV doc pm an cdv ct us ws l1 l2)
  · exact absurd rfl z
/-- f(k = v, ..) -/
theorem w_callK0 {k np : Nat} {x : Str} {params : Arguments} {ps ks : List Str} {perm : List Nat} {m : Fn} {kws : List Keyword} {b : LM} {p pos : Pos} (F : Has X.prog X.w X.K X.mg X.base x params ps k m) (hb : BindK params ps 0 ks perm) (hk : Here X k) (tk : Takes X W)
    (hkw : PKm X W kws b) (hn : ps.length = np := by rfl) (hall : (backToKw pos (keywordEach kws X.env)).all (·.1.isSome) = true := by rfl) (hks : (backToKw pos (keywordEach kws X.env)).filterMap (·.1) = ks := by rfl) (hg : Gl X x := by rfl) (hd : (x == ("__debug__" : Str)) = false := by decide)
    (hpl : ((backTo pos (starEach [] X.env)).any (·.1) || (backToKw pos (keywordEach kws X.env)).any (·.1.isNone)) = false := by rfl) : PEm X W (.Call (.Name x p) [] kws pos) (eCallK 0 ks.length np perm m lN b) := by
  obtain ⟨f, fd, qual, body, scope, hm, G, D⟩ := F.ex
  subst hn
  refine ⟨fun pins s σ H Q I q => ?_⟩
  obtain ⟨as, h, t, rh, rs, q⟩ := q
  refine wpAny_Call_Name_kw (ld_glob I hg hm ?_ hd)
  refine PySem.W.callWith_KW0 (h₀ := X.base) I.ok.mod.kin D.kp hall (thn (hkw.run pos pins s σ H _ I ⟨as, h, t, rh, rs, Post.bind (R := Reps X.K) q⟩) fun us s1 z => ?_) hpl
  obtain ⟨vs, H1, I1, r, as1, h1, xs, x1, r1, e1, q1⟩ := z
  refine ⟨I1.kIn, ?_⟩
  rw [hks]
  split at q1
  · rename_i l
    exact wpAny_call (run_G G hk.room hk.gd I1.env0 tk I1 (FunD.bindK D hb _ [] us rfl (by rw [← r.length, ← e1.len, l.2.1])) (vals_perm r perm) r1 (e1.perm perm) l.2.2 q1)
  · exact q1.elim
theorem Reps.permL {K : PySem.W.Frag} {as : List Addr} {H : Hp} {xs ys : List P} {vs ws : List V} (r : Reps K as H xs vs) (r2 : Reps K as H ys ws) (perm : List Nat) : Reps K as H (AM.permL perm xs ys) (AM.permL perm vs ws) := (r.app r2).perm perm
theorem w_callK {k n np : Nat} {x : Str} {params : Arguments} {ps ks : List Str} {perm : List Nat} {m : Fn} {e : Expr} {es : List Expr} {a : LM} {kws : List Keyword} {b : LM} {p pos : Pos} (F : Has X.prog X.w X.K X.mg X.base x params ps k m) (hb : BindK params ps n ks perm) (hk : Here X k) (tk : Takes X W)
    (ha : PAm X W (e :: es) a) (hkw : PKm X W kws b) (hn : ps.length = np := by rfl) (hall : (backToKw pos (keywordEach kws X.env)).all (·.1.isSome) = true := by rfl) (hks : (backToKw pos (keywordEach kws X.env)).filterMap (·.1) = ks := by rfl) (hg : Gl X x := by rfl) (hd : (x == ("__debug__" : Str)) = false := by decide)
    (he : starEach (e :: es) X.env = (false, eval e X.env) :: starEach es X.env := by rfl)
    (hpl : ((backTo pos (starEach (e :: es) X.env)).any (·.1) || (backToKw pos (keywordEach kws X.env)).any (·.1.isNone)) = false := by rfl) : PEm X W (.Call (.Name x p) (e :: es) kws pos) (eCallK n ks.length np perm m a b) := by
  obtain ⟨f, fd, qual, body, scope, hm, G, D⟩ := F.ex
  subst hn
  refine ⟨fun pins s σ H Q I q => ?_⟩
  obtain ⟨as, h, t, rh, rs, q⟩ := q
  refine wpAny_Call_Name_kw (ld_glob I hg hm ?_ hd)
  refine PySem.W.callWith_KW (h₀ := X.base) I.ok.mod.kin D.kp hall (thn (ha.run pos pins s σ H _ I ⟨as, h, t, rh, rs, Post.bind (R := Reps X.K) q⟩) fun us s1 z => ?_) hpl he
  obtain ⟨vs, H1, I1, r, as1, h1, xs, x1, r1, e1, q1⟩ := z
  refine thn (hkw.run pos pins s1 σ H1 _ I1 ⟨as1, h1, t, r1, rs.mono x1, Post.bind (R := Reps X.K) q1⟩) fun ws s2 z => ?_
  obtain ⟨zs, H2, I2, rz, as2, h2, ys, x2, r2, e2, q2⟩ := z
  refine ⟨I2.kIn, ?_⟩
  rw [hks]
  split at q2
  · rename_i l
    exact wpAny_call (run_G G hk.room hk.gd I2.env0 tk I2 (FunD.bindK D hb _ us ws (by rw [← r.length, ← e1.len, l.1]) (by rw [← rz.length, ← e2.len, l.2.1])) (vals_perm (r.append rz) perm) r2 (Reps.permL (e1.mono x2) e2 perm) l.2.2 q2)
  · exact q2.elim

/-! ### methods -/
structure HasM (Pr : Program) (w : World) (K : PySem.W.Frag) (mg : Str → Option Value) (base : Heap) (C mt : Str) (params : Arguments) (ps : List Str) (k : Nat) (m : Fn) : Prop where
  cls : SlX.SCls K (He.ga K C)
  ex : ∃ f fd qual body scope, Meth K (He.ga K C) mt f ∧ FnG Pr w K mg base k f fd ps (spOf K ps.length m) ∧ FunD K mt qual params body scope [] [] f fd
/-- the instance that a value is -/
def insOf (h : AH) : P → Option (Nat × Str × List (Option P))
  | .obj i => match h[i]? with
    | some (.ins C fs) => some (i, C, fs)
    | _ => none
  | _ => none
theorem insOf_ok {K : PySem.W.Frag} {as : List Addr} {h : AH} {H : Hp} {p : P} {v : V} {i : Nat} {C : Str} {fs : List (Option P)} (rh : RelH K as h H) (r : Rep K as H p v) (e : insOf h p = some (i, C, fs)) :
    p = .obj i ∧ h[i]? = some (.ins C fs) ∧ ∃ a dx vs, v = .ref a ∧ as[i]? = some a ∧ SlX.Slt H a (He.ga K C) dx vs ∧ ∀ (i : Nat) (p : P), fs[i]? = some (some p) → ∃ v, vs[i]? = some (some v) ∧ Rep K as H p v := by
  unfold insOf at e
  split at e
  · rename_i n
    split at e
    · rename_i C' fs' z
      cases e
      unfold Rep at r
      obtain ⟨a, e1, e2⟩ := r
      obtain ⟨dx, vs, q1, q2⟩ := rh.obj z e2
      exact ⟨rfl, z, a, dx, vs, e1, e2, q1, q2⟩
    · cases e
  · cases e
def eMeth (C : Str) (n : Nat) (m : Fn) (o : EM) (a : LM) : EM := fun t h => (o t h).bind fun x h1 => match insOf h1 x with
  | some (_, D, _) => if D = C then (a t h1).bind fun xs h2 => if xs.length + 1 = n then m (x :: xs) h2 else .bad else .bad
  | none => .bad
theorem w_meth {pl : Sem Bool} {k n : Nat} {C mt : Str} {params : Arguments} {ps : List Str} {m : Fn} {o e : Expr} {es : List Expr} {mo : EM} {a : LM} {apos pos : Pos} (F : HasM X.prog X.w X.K X.mg X.base C mt params ps k m) (hb : BindP params ps) (hk : Here X k) (tk : Takes X W)
    (ho : PEm X W o mo) (ha : PAm X W (e :: es) a) (hn : ps.length = n := by rfl) (hst : starEach (e :: es) X.env = (false, eval e X.env) :: starEach es X.env := by rfl) (hpl : (backTo pos (starEach es X.env)).any (·.1) = false := by rfl)
    (ht : eval (.Call (.Attribute o mt apos) (e :: es) [] pos) X.env = (do
      let ov ← eval o X.env
      standAt apos.atName
      let (f, first) ← holding [ov] (getMethod ov mt pl)
      callWith pos f first (backTo pos (starEach (e :: es) X.env)) (backToKw pos (keywordEach [] X.env))) := by rfl) :
    PEm X W (.Call (.Attribute o mt apos) (e :: es) [] pos) (eMeth C n m mo a) := by
  obtain ⟨f, fd, qual, body, scope, hm, G, D⟩ := F.ex
  subst hn
  refine ⟨fun pins s σ H Q I q => ?_⟩
  obtain ⟨as, h, t, rh, rs, q⟩ := q
  refine PySem.W.methodCall_KW (pl := pl) (thn (ho.run pins s σ H _ I ⟨as, h, t, rh, rs, Post.bind (R := Rep X.K) q⟩) fun u s1 z => ?_) ht
  obtain ⟨v, H1, I1, rv, as1, h1, x, x1, r1, e1, q1⟩ := z
  split at q1
  · rename_i j D' fs z
    split at q1
    · rename_i eD
      subst eD
      obtain ⟨_, _, b, dx, vs, ev, _, hsl, _⟩ := insOf_ok r1 e1 z
      subst ev
      cases rv
      refine SlX.getmethsl_ok I1 hsl F.cls hm ?_
      refine PySem.W.callWith_K (first := [.ref b]) (h₀ := X.base) I.ok.mod.kin hm.kp (thn (ha.run pos pins s1 σ H1 _ I1 ⟨as1, h1, t, r1, rs.mono x1, Post.bind (R := Reps X.K) q1⟩) fun us s2 z => ?_) hst hpl
      obtain ⟨ws, H2, I2, r, as2, h2, xs, x2, r2, e2, q2⟩ := z
      refine ⟨I2.kIn, ?_⟩
      split at q2
      · rename_i l
        refine wpAny_call (run_G G hk.room hk.gd I2.env0 tk I2 ?_ (.cons (show RelV (.ref b) (.ref b) from rfl) r) r2 (reps_cons (e1.mono x2) e2) l q2)
        exact D.bindsA (fun kV doc pm an cdv ct us hl => hb mt qual body scope kV doc pm an cdv ct us hl) _ (.ref b :: us) (by simp only [List.length_cons]; rw [← r.length, ← e2.len, l])
      · exact q2.elim
    · exact q1.elim
  · exact q1.elim
theorem w_meth0 {pl : Sem Bool} {k n : Nat} {C mt : Str} {params : Arguments} {ps : List Str} {m : Fn} {o : Expr} {mo : EM} {apos pos : Pos} (F : HasM X.prog X.w X.K X.mg X.base C mt params ps k m) (hb : BindP params ps) (hk : Here X k) (tk : Takes X W)
    (ho : PEm X W o mo) (hn : ps.length = n := by rfl)
    (ht : eval (.Call (.Attribute o mt apos) [] [] pos) X.env = (do
      let ov ← eval o X.env
      standAt apos.atName
      let (f, first) ← holding [ov] (getMethod ov mt pl)
      callWith pos f first (backTo pos (starEach [] X.env)) (backToKw pos (keywordEach [] X.env))) := by rfl) :
    PEm X W (.Call (.Attribute o mt apos) [] [] pos) (eMeth C n m mo lN) := by
  obtain ⟨f, fd, qual, body, scope, hm, G, D⟩ := F.ex
  subst hn
  refine ⟨fun pins s σ H Q I q => ?_⟩
  obtain ⟨as, h, t, rh, rs, q⟩ := q
  refine PySem.W.methodCall_KW (pl := pl) (thn (ho.run pins s σ H _ I ⟨as, h, t, rh, rs, Post.bind (R := Rep X.K) q⟩) fun u s1 z => ?_) ht
  obtain ⟨v, H1, I1, rv, as1, h1, x, x1, r1, e1, q1⟩ := z
  split at q1
  · rename_i j D' fs z
    split at q1
    · rename_i eD
      subst eD
      obtain ⟨_, _, b, dx, vs, ev, _, hsl, _⟩ := insOf_ok r1 e1 z
      subst ev
      cases rv
      refine SlX.getmethsl_ok I1 hsl F.cls hm ?_
      unfold lN Out.bind at q1
      refine PySem.W.callWith_K0 (first := [.ref b]) I1.kIn hm.kp ?_
      dsimp only at q1
      split at q1
      · rename_i l
        refine wpAny_call (run_G G hk.room hk.gd I1.env0 tk I1 ?_ (.cons (show RelV (.ref b) (.ref b) from rfl) .nil) r1 (reps_cons e1 reps_nil) l q1)
        exact D.bindsA (fun kV doc pm an cdv ct us hl => hb mt qual body scope kV doc pm an cdv ct us hl) _ [.ref b] l
      · exact q1.elim
    · exact q1.elim
  · exact q1.elim

/-! ### properties -/
structure HasP (Pr : Program) (w : World) (K : PySem.W.Frag) (mg : Str → Option Value) (base : Heap) (C mt : Str) (params : Arguments) (ps : List Str) (k : Nat) (m : Fn) : Prop where
  cls : SlX.SCls K (He.ga K C)
  ex : ∃ p g fd qual body scope, PySem.W.findIn K (.ref (He.ga K C)) mt = some (some (.ref p)) ∧ PySem.W.specialIn K (.ref p) "__get__" = some (some (.builtin "property.__get__")) ∧ PySem.W.takesIn K (.ref p) = some true ∧
    (∃ rest, PySem.W.recIn K p "property" = some (.ref g :: rest)) ∧ FnG Pr w K mg base k g fd ps (spOf K ps.length m) ∧ FunD K mt qual params body scope [] [] g fd
/-- what must not raise -/
def Out.calm {α : Type} (o : Out α) : Out α := match o with
  | .ok a h => .ok a h
  | _ => .bad
def eProp (C : Str) (m : Fn) (o : EM) : EM := fun t h => (o t h).bind fun x h1 => match insOf h1 x with
  | some (_, D, _) => if D = C then (m [x] h1).calm else .bad
  | none => .bad
theorem Post.calm {α β : Type} {R : List Addr → Hp → α → β → Prop} {K : PySem.W.Frag} {W W' : WX} {s s' : L2.St} {as : List Addr} {H : Hp} {o : Out α} {Q : β → Hp → Prop} (q : Post R K W s as H o.calm Q) : Post R K W' s' as H o Q := by
  cases o with
  | ok a h => exact q
  | exc c p h => exact q.elim
  | bad => exact q.elim
theorem run_G0 {k n : Nat} {f : Addr} {fd : FuncData} {ps : List Str} {m : Fn} {pins : List (Addr × Obj)} {σ : L2.St} {H : Hp} {s : Shared} {Q : VK} {args : Args} {us : List Value} {vs : List V} {as : List Addr} {h : AH} {xs : List P} {A : Around}
    (F : FnG X.prog X.w X.K X.mg X.base k f fd ps (spOf X.K n m)) (hr : Room k A) (hg : A.guards = some []) (e0 : Env0 X.prog X.w X.K X.mg X.base A X.stack s H) (I : Inv X pins σ H s) (b : BindsTo s fd args (ps.zip us)) (r : Vals vs us)
    (rh : RelH X.K as h H) (rv : Reps X.K as H xs vs) (l : xs.length = n) (q : Post (Rep X.K) X.K W σ as H (m xs h).calm Q) :
    codeAny (model X.prog X.w) A (.call (.ref f) args) (fun r s' => match r with | .ok (.ret v) => EP X pins σ Q v s' | _ => False) s := by
  refine codeAny_mono (F.run A X.stack s H args us vs Q (fun _ _ _ => False) hr hg e0 b r ⟨as, h, xs, rh, rv, l, q.calm⟩) fun r s' z => ?_
  cases r with
  | error e =>
    obtain ⟨_, _, _, _, _, _, _, _, _, _, _, _, no⟩ := z
    exact no.elim
  | ok fl =>
    cases fl with
    | ret u => exact I.after z
    | next => exact z.elim
    | brk => exact z.elim
    | cont => exact z.elim
theorem w_prop {k : Nat} {C mt q0 : Str} {params : Arguments} {m : Fn} {o : Expr} {mo : EM} {pos : Pos} (F : HasP X.prog X.w X.K X.mg X.base C mt params [q0] k m) (hb : BindP params [q0]) (hk : Here X (k + 1))
    (ho : PEm X W o mo) (hbase : attributeBase o mt X.env (eval o X.env) = eval o X.env := by rfl) : PEm X W (.Attribute o mt pos) (eProp C m mo) := by
  obtain ⟨p, g, fd, qual, body, scope, h1, h2, h3, ⟨rest, h4⟩, G, D⟩ := F.ex
  refine ⟨fun pins s σ H Q I q => ?_⟩
  obtain ⟨as, h, t, rh, rs, q⟩ := q
  refine attr_of hbase (thn (ho.run pins s σ H _ I ⟨as, h, t, rh, rs, Post.bind (R := Rep X.K) q⟩) fun u s1 z => ?_)
  obtain ⟨v, H1, I1, rv, as1, hh1, x, x1, r1, e1, q1⟩ := z
  split at q1
  · rename_i j D' fs z
    split at q1
    · rename_i eD
      subst eD
      obtain ⟨_, _, b, dx, vs, ev, _, hsl, _⟩ := insOf_ok r1 e1 z
      subst ev
      cases rv
      obtain ⟨sl, od, _, J, _⟩ := SlX.slt_inst I1 hsl
      have I2 := I1.tok (s1.toks + 1)
      refine PySem.W.get_bind I1.kIn J (PySem.W.plainGet_of (F.cls.get mt)).1 (PySem.W.findObj_data F.cls.ic h1 h2 h3) (PySem.W.plainGet_of (F.cls.get mt)).2
        (wpAny_call (PySem.W.prop_get (s := { s1 with toks := s1.toks + 1 }) I1.kIn h4 ?_))
      refine codeAny_mono (run_G0 (Q := Q) G hk.room.in1 hk.gd I2.env0.in1 I2 ?_ (.cons (show RelV (.ref b) (.ref b) from rfl) .nil) r1 (reps_cons e1 reps_nil) rfl q1) fun r s' hq => ?_
      · exact D.bindsA (fun kV doc pm an cdv ct us hl => hb mt qual body scope kV doc pm an cdv ct us hl) _ [.ref b] rfl
      · cases r with
        | error e => exact hq.elim
        | ok fl =>
          cases fl with
          | ret u =>
            obtain ⟨v, H', I3, rv, qv⟩ := hq
            exact wpAny_of_eq (PySem.W.handedOut_of (handed_of rv)) ⟨v, H', I3, rv, qv⟩
          | next => exact hq.elim
          | brk => exact hq.elim
          | cont => exact hq.elim
    · exact q1.elim
  · exact q1.elim
end
end AM

/-! AM5: new instances, slots; targets and stores; statements. -/
namespace AM
open PySem PySem.Spec PyProof.Rows L2
section
variable {X : Cx} {W : WX}

/-! ### new instances -/
structure HasC (Pr : Program) (w : World) (K : PySem.W.Frag) (mg : Str → Option Value) (base : Heap) (C : Str) (params : Arguments) (ps : List Str) (k : Nat) (m : Fn) : Prop where
  at_ : mg C = some (.ref (He.ga K C))
  ex : ∃ f fd qual body scope, Mk K (He.ga K C) f ∧ FnG Pr w K mg base k f fd ps (spOf K ps.length m) ∧ FunD K "__init__" qual params body scope [] [] f fd
def newOf (C : Str) (m : Fn) (xs : List P) (h : AH) : Out P := (m (.obj h.length :: xs) (h ++ [.ins C []])).bind fun r h2 => match r with
  | .non => .ok (.obj h.length) h2
  | _ => .bad
theorem noGuard (args : Args) : Code.guards (.builtin "type.__call__" args) = [] := by
  have e : Code.isGuard (.builtin "type.__call__" args) = false := by
    have z : ¬ ("type.__call__" ∈ guardIds) := by decide +kernel
    simp [Code.isGuard, z]
  unfold Code.guards
  rw [e]
  rfl
theorem guards_make {A : Around} {args : Args} (h : A.guards = some []) : (A.under (.builtin "type.__call__" args)).guards = some [] := by
  show pushGuards (Code.guards (.builtin "type.__call__" args)) A.guards = some []
  rw [h, noGuard]
  rfl
theorem run_new {k : Nat} {f : Addr} {fd : FuncData} {ps ks : List Str} {C : Str} {m : Fn} {pins : List (Addr × Obj)} {σ : L2.St} {H : Hp} {s : Shared} {Q : VK} {us ws bs : List Value} {vs : List V} {as : List Addr} {h : AH} {xs : List P}
    (M : Mk X.K (He.ga X.K C) f) (F : FnG X.prog X.w X.K X.mg X.base k f fd ps (spOf X.K ps.length m)) (hk : Here X (k + 1)) (tk : Takes X W) (I : Inv X pins σ H s)
    (r : Vals vs bs) (bb : ∀ (s : Shared) (u : Value), X.K.In s.heap → BindsTo s fd ⟨u :: us, ks.zip ws⟩ (ps.zip (u :: bs)))
    (rh : RelH X.K as h H) (rv : Reps X.K as H xs vs) (l : xs.length + 1 = ps.length) (q : Post (Rep X.K) X.K W σ as H (newOf C m xs h) Q) :
    wpAny (model X.prog X.w) X.A (call (.ref (He.ga X.K C)) us (ks.zip ws)) (EP X pins σ Q) X.xe s := by
  have I2 := Inv.made (C := He.ga X.K C) I
  have f1 : H s.heap.objs.size = none := I.hok.fresh (Nat.le_refl _)
  have f2 : upd H s.heap.objs.size (.own (s.heap.objs.size + 1)) (s.heap.objs.size + 1) = none := by
    rw [upd_ne (Nat.succ_ne_self _)]
    exact I.hok.fresh (Nat.le_succ _)
  have r1 : RelH X.K as h (upd H s.heap.objs.size (.own (s.heap.objs.size + 1))) := rh.laid f1
  have x1 : Ext as H as (upd H s.heap.objs.size (.own (s.heap.objs.size + 1))) := Ext.laid rh f1
  have x2 := Ext.push (o := .ins (He.ga X.K C) s.heap.objs.size []) r1 f2
  have x3 := x1.trans x2
  have r2 : RelH X.K (as ++ [s.heap.objs.size + 1]) (h ++ [.ins C []]) (upd (upd H s.heap.objs.size (.own (s.heap.objs.size + 1))) (s.heap.objs.size + 1) (.ins (He.ga X.K C) s.heap.objs.size [])) :=
    r1.push f2 ⟨s.heap.objs.size, [], .inl ⟨upd_same, rfl⟩, fun i p e => by simp at e⟩
  have e0 : (as ++ [s.heap.objs.size + 1])[h.length]? = some (s.heap.objs.size + 1) := by
    rw [← rh.len]
    simp
  have q2 : Post (Rep X.K) X.K W σ (as ++ [s.heap.objs.size + 1]) (upd (upd H s.heap.objs.size (.own (s.heap.objs.size + 1))) (s.heap.objs.size + 1) (.ins (He.ga X.K C) s.heap.objs.size []))
      (m (.obj h.length :: xs) (h ++ [.ins C []])) (fun v H2 => v = .non ∧ Q (.ref (s.heap.objs.size + 1)) H2) := by
    unfold newOf at q
    cases z : m (.obj h.length :: xs) (h ++ [.ins C []]) with
    | bad => rw [z] at q; exact q.elim
    | exc c p h' => rw [z] at q; exact ExcP.ext q x3
    | ok p h' =>
      rw [z] at q
      intro as' H' v xe rr rp
      cases p with
      | non => exact ⟨rp, q as' H' _ (x3.trans xe) rr (by unfold Rep; exact ⟨_, rfl, xe.get e0⟩)⟩
      | bl _ => exact q.elim
      | int _ => exact q.elim
      | str _ => exact q.elim
      | tup _ => exact q.elim
      | lst _ => exact q.elim
      | obj _ => exact q.elim
      | cls _ => exact q.elim
      | scr _ => exact q.elim
  refine wpAny_call (make_map (f := f) I.kIn M.makes M.init (beq_iff_eq.mp M.fn) (codeAny_mono (run_G (A := X.A.under (.builtin "type.__call__" ⟨.ref (He.ga X.K C) :: us, ks.zip ws⟩)) F (hk.room.make _ us (ks.zip ws)) (guards_make hk.gd) (I2.env0.make _ us (ks.zip ws)) tk I2
    (bb _ (.ref (s.heap.objs.size + 1)) I2.kIn) (.cons (show RelV (.ref (s.heap.objs.size + 1)) (.ref (s.heap.objs.size + 1)) from rfl) r) r2 (reps_cons (by unfold Rep; exact ⟨_, rfl, e0⟩) (rv.mono x3)) l q2) fun r s' hq => ?_))
  cases r with
  | error e => exact hq
  | ok fl =>
    cases fl with
    | ret u =>
      obtain ⟨v, H', I3, rv', ev, q3⟩ := hq
      subst ev
      exact ⟨rv', ⟨V.ref (s.heap.objs.size + 1), H', I3, rfl, q3⟩⟩
    | next => exact hq.elim
    | brk => exact hq.elim
    | cont => exact hq.elim
def eNew (C : Str) (n : Nat) (m : Fn) (a : LM) : EM := fun t h => (a t h).bind fun xs h1 => if xs.length + 1 = n then newOf C m xs h1 else .bad
theorem w_new {k n : Nat} {C : Str} {params : Arguments} {ps : List Str} {m : Fn} {e : Expr} {es : List Expr} {a : LM} {p pos : Pos} (F : HasC X.prog X.w X.K X.mg X.base C params ps k m) (hb : BindP params ps) (hk : Here X (k + 1)) (tk : Takes X W)
    (ha : PAm X W (e :: es) a) (hn : ps.length = n := by rfl) (hg : Gl X C := by rfl) (hd : (C == ("__debug__" : Str)) = false := by decide) (he : starEach (e :: es) X.env = (false, eval e X.env) :: starEach es X.env := by rfl)
    (hpl : (backTo pos (starEach es X.env)).any (·.1) = false := by rfl) : PEm X W (.Call (.Name C p) (e :: es) [] pos) (eNew C n m a) := by
  obtain ⟨f, fd, qual, body, scope, M, G, D⟩ := F.ex
  subst hn
  refine ⟨fun pins s σ H Q I q => ?_⟩
  obtain ⟨as, h, t, rh, rs, q⟩ := q
  refine wpAny_Call_Name_kw (ld_glob I hg F.at_ ?_ hd)
  refine PySem.W.callWith_K (h₀ := X.base) I.ok.mod.kin M.kp (thn (ha.run pos pins s σ H _ I ⟨as, h, t, rh, rs, Post.bind (R := Reps X.K) q⟩) fun us s1 z => ?_) he hpl
  obtain ⟨vs, H1, I1, r, as1, h1, xs, x1, r1, e1, q1⟩ := z
  refine ⟨I1.kIn, ?_⟩
  split at q1
  · rename_i l
    have z : ∀ (s : Shared) (u : Value), X.K.In s.heap → BindsTo s fd ⟨u :: us, []⟩ (ps.zip (u :: us)) := fun s u _ =>
      D.bindsA (fun kV doc pm an cdv ct us hl => hb "__init__" qual body scope kV doc pm an cdv ct us hl) _ (u :: us) (by simp only [List.length_cons]; rw [← r.length, ← e1.len, l])
    exact run_new (ks := []) (ws := []) M G hk tk I1 r z r1 e1 l q1
  · exact q1.elim
/-- C(k = v) -/
theorem w_newK1 {k : Nat} {C q1 q2 : Str} {params : Arguments} {m : Fn} {kws : List Keyword} {b : LM} {p pos : Pos} (F : HasC X.prog X.w X.K X.mg X.base C params [q1, q2] k m) (hb : BindK params [q1, q2] 1 [q2] [0, 1]) (hk : Here X (k + 1)) (tk : Takes X W)
    (hkw : PKm X W kws b) (hall : (backToKw pos (keywordEach kws X.env)).all (·.1.isSome) = true := by rfl) (hks : (backToKw pos (keywordEach kws X.env)).filterMap (·.1) = [q2] := by rfl) (hg : Gl X C := by rfl) (hd : (C == ("__debug__" : Str)) = false := by decide)
    (hpl : ((backTo pos (starEach [] X.env)).any (·.1) || (backToKw pos (keywordEach kws X.env)).any (·.1.isNone)) = false := by rfl) : PEm X W (.Call (.Name C p) [] kws pos) (eNew C 2 m b) := by
  obtain ⟨f, fd, qual, body, scope, M, G, D⟩ := F.ex
  refine ⟨fun pins s σ H Q I q => ?_⟩
  obtain ⟨as, h, t, rh, rs, q⟩ := q
  refine wpAny_Call_Name_kw (ld_glob I hg F.at_ ?_ hd)
  refine PySem.W.callWith_KW0 (h₀ := X.base) I.ok.mod.kin M.kp hall (thn (hkw.run pos pins s σ H _ I ⟨as, h, t, rh, rs, Post.bind (R := Reps X.K) q⟩) fun us s1 z => ?_) hpl
  obtain ⟨vs, H1, I1, r, as1, h1, xs, x1, r1, e1, q1'⟩ := z
  refine ⟨I1.kIn, ?_⟩
  rw [hks]
  split at q1'
  · rename_i l
    have lu : us.length = 1 := by rw [← r.length, ← e1.len]; omega
    cases us with
    | nil => simp at lu
    | cons u0 us0 =>
      cases us0 with
      | cons _ _ => simp at lu
      | nil =>
        exact run_new (ks := [q2]) (us := []) (ws := [u0]) (bs := [u0]) M G hk tk I1 r (fun s u _ => FunD.bindK D hb s [u] [u0] rfl rfl) r1 e1 (by simpa using l) q1'
  · exact q1'.elim

/-! ### slots -/
structure HasS (K : PySem.W.Frag) (C f : Str) (i : Nat) : Prop where
  cls : SlX.SCls K (He.ga K C)
  ex : ∃ p, SlX.Slot1 K (He.ga K C) f p i
def eSlot (C : Str) (i : Nat) (o : EM) : EM := fun t h => (o t h).bind fun x h1 => match insOf h1 x with
  | some (_, D, fs) => if D = C then (match fs[i]? with
    | some (some p) => .ok p h1
    | _ => .bad) else .bad
  | none => .bad
theorem w_slot {C f : Str} {i : Nat} {o : Expr} {mo : EM} {pos : Pos} (F : HasS X.K C f i) (ho : PEm X W o mo) (hbase : attributeBase o f X.env (eval o X.env) = eval o X.env := by rfl) : PEm X W (.Attribute o f pos) (eSlot C i mo) := by
  obtain ⟨p, S⟩ := F.ex
  refine ⟨fun pins s σ H Q I q => ?_⟩
  obtain ⟨as, h, t, rh, rs, q⟩ := q
  refine attr_of hbase (thn (ho.run pins s σ H _ I ⟨as, h, t, rh, rs, Post.bind (R := Rep X.K) q⟩) fun u s1 z => ?_)
  obtain ⟨v, H1, I1, rv, as1, hh1, x, x1, r1, e1, q1⟩ := z
  split at q1
  · rename_i j D' fs z
    split at q1
    · rename_i eD
      subst eD
      split at q1
      · rename_i y ey
        obtain ⟨_, _, b, dx, vs, ev, _, hsl, hf⟩ := insOf_ok r1 e1 z
        subst ev
        cases rv
        obtain ⟨w', e2, e3⟩ := hf i y ey
        exact SlX.getslot_ok I1 hsl F.cls S e2 fun u' s2 I2 ru => ⟨w', H1, I2, ru, Post.done q1 (Ext.refl _ _) r1 e3⟩
      · exact q1.elim
    · exact q1.elim
  · exact q1.elim

/-! ### targets -/
abbrev GM := P → AM.Loc → AH → Option (AM.Loc × AH)
def PostG (K : PySem.W.Frag) (as : List Addr) (H : Hp) (o : Option (AM.Loc × AH)) (Q : L2.St → Hp → Prop) : Prop := match o with
  | some (t, h) => ∀ as' H' s', Ext as H as' H' → RelH K as' h H' → RepS K as' H' t s' → Q s' H'
  | none => False
theorem PostG.ext {K : PySem.W.Frag} {as as' : List Addr} {H H' : Hp} {o : Option (AM.Loc × AH)} {Q : L2.St → Hp → Prop} (q : PostG K as H o Q) (x : Ext as H as' H') : PostG K as' H' o Q := by
  cases o with
  | none => exact q
  | some th => exact fun a2 H2 s2 x2 => q a2 H2 s2 (x.trans x2)
theorem PostG.mono {K : PySem.W.Frag} {as : List Addr} {H : Hp} {o : Option (AM.Loc × AH)} {Q Q' : L2.St → Hp → Prop} (q : PostG K as H o Q) (f : ∀ s H', Q s H' → Q' s H') : PostG K as H o Q' := by
  cases o with
  | none => exact q
  | some th => exact fun a2 H2 s2 x2 r e => f _ _ (q a2 H2 s2 x2 r e)
theorem PostG.bind {K : PySem.W.Frag} {as : List Addr} {H : Hp} {o : Option (AM.Loc × AH)} {f : AM.Loc × AH → Option (AM.Loc × AH)} {Q : L2.St → Hp → Prop} (q : PostG K as H (o.bind f) Q) :
    PostG K as H o (fun s1 H1 => ∃ as1 h1 t1, Ext as H as1 H1 ∧ RelH K as1 h1 H1 ∧ RepS K as1 H1 t1 s1 ∧ PostG K as1 H1 (f (t1, h1)) Q) := by
  cases o with
  | none => exact q
  | some th => exact fun a2 H2 s2 x2 r e => ⟨a2, th.2, th.1, x2, r, e, PostG.ext (o := f th) q x2⟩
def TGm (K : PySem.W.Frag) (m : GM) : TG := fun v s H Q => ∃ as h t p, RelH K as h H ∧ RepS K as H t s ∧ Rep K as H p v ∧ PostG K as H (m p t h) Q
abbrev PGm (X : Cx) (tg : Expr) (m : GM) : Prop := PG X tg (TGm X.K m)
abbrev GMs := List P → AM.Loc → AH → Option (AM.Loc × AH)
def TGms (K : PySem.W.Frag) (m : GMs) : TGs := fun vs s H Q => ∃ as h t ps, RelH K as h H ∧ RepS K as H t s ∧ Reps K as H ps vs ∧ PostG K as H (m ps t h) Q
abbrev PGms (X : Cx) (tg : List Expr) (m : GMs) : Prop := PGs X tg (TGms X.K m)
theorem PG_imp {tg : Expr} {t t' : TG} (h : PG X tg t) (i : ∀ v s H Q, t' v s H Q → t v s H Q) : PG X tg t' := ⟨fun pins s σ H v u Q I r q => h.run pins s σ H v u Q I r (i _ _ _ _ q)⟩
theorem PGs_imp {tg : List Expr} {t t' : TGs} (h : PGs X tg t) (i : ∀ v s H Q, t' v s H Q → t v s H Q) : PGs X tg t' := ⟨fun pins s σ H v u Q I r q => h.run pins s σ H v u Q I r (i _ _ _ _ q)⟩
theorem RepS.set {K : PySem.W.Frag} {as : List Addr} {H : Hp} {t : AM.Loc} {s : L2.St} (r : RepS K as H t s) {p : P} {v : V} (e : Rep K as H p v) (i : Nat) : RepS K as H (t.set i (some p)) (s.set i (some v)) := by
  refine ⟨by simp [r.1], fun j q z => ?_⟩
  by_cases hj : i = j
  · subst hj
    by_cases hl : i < t.length
    · rw [List.getElem?_set_self hl] at z
      cases z
      exact ⟨v, List.getElem?_set_self (by rw [← r.1]; exact hl), e⟩
    · rw [List.getElem?_eq_none (by simpa using hl)] at z
      cases z
  · rw [List.getElem?_set_ne hj] at z
    rw [List.getElem?_set_ne hj]
    exact r.2 j q z
def gN (i : Nat) : GM := fun p t h => some (t.set i (some p), h)
theorem wg_name (i : Nat) {x : Str} {pos : Pos} (hN : X.N.Nodup) (hi : X.N[i]? = some x := by rfl) (hx : L2.Loc X.env.scope x := by first | exact Or.inl rfl | exact Or.inr rfl) (hf : X.fn x = true ∨ X.env.scope.names.lookup x = some .local := by first | exact .inl rfl | exact .inr rfl | assumption) : PGm X (.Name x pos) (gN i) := by
  refine PG_imp (pg_name (i := i) hN hi hx hf) fun v s H Q q => ?_
  obtain ⟨as, h, t, p, rh, rs, rp, q⟩ := q
  exact q as H _ (Ext.refl _ _) rh (rs.set rp i)
def gsN : GMs := fun ps t h => match ps with
  | [] => some (t, h)
  | _ => none
def gsC (g : GM) (r : GMs) : GMs := fun ps t h => match ps with
  | p :: ps => (g p t h).bind fun th => r ps th.1 th.2
  | _ => none
theorem wgs_nil : PGms X [] gsN := PGs_imp pgs_nil fun vs s H Q q => by
  obtain ⟨as, h, t, ps, rh, rs, rp, q⟩ := q
  cases ps with
  | nil => exact ⟨reps_inv0 rp, q as H s (Ext.refl _ _) rh rs⟩
  | cons _ _ => exact q.elim
theorem wgs_cons {e : Expr} {es : List Expr} {g : GM} {r : GMs} (h1 : PGm X e g) (h2 : PGms X es r) (hs : (assignEach (e :: es) X.env).map (·.2) = assign e X.env :: (assignEach es X.env).map (·.2) := by rfl) : PGms X (e :: es) (gsC g r) := by
  refine PGs_imp (pgs_cons h1 h2 hs) fun vs s H Q q => ?_
  obtain ⟨as, h, t, ps, rh, rs, rp, q⟩ := q
  cases ps with
  | nil => exact q.elim
  | cons p ps =>
    obtain ⟨v, vr, rfl, r1, r2⟩ := reps_inv rp
    refine ⟨v, vr, rfl, as, h, t, p, rh, rs, r1, (PostG.bind (o := g p t h) q).mono fun s' H' z => ?_⟩
    obtain ⟨as1, h1, t1, x1, r1', e1, q3⟩ := z
    exact ⟨as1, h1, t1, ps, r1', e1, r2.mono x1, q3⟩
/-- a tuple's parts to as many targets -/
def gT (n : Nat) (r : GMs) : GM := fun p t h => match p with
  | .tup xs => if xs.length = n then r xs t h else none
  | _ => none
theorem wg_tup {es : List Expr} {k : Nat} {pos : Pos} {r : GMs} {n : Nat} (hc : X.calm = true) (hr : PGms X es r) (hn : (assignEach es X.env).length = n := by rfl) (hst : (assignEach es X.env).findIdx? (·.1) = none := by rfl) : PGm X (.Tuple es k pos) (gT n r) := by
  refine PG_imp (pg_tup hc hr hn hst) fun v s H Q q => ?_
  obtain ⟨as, h, t, p, rh, rs, rp, q⟩ := q
  unfold gT at q
  split at q
  · rename_i xs
    unfold Rep at rp
    obtain ⟨a, vs, e1, e2, e3⟩ := rp
    split at q
    · rename_i l
      exact ⟨a, vs, e1, e2.sq, by rw [← e3.len, l], as, h, t, xs, rh, rs, e3, q⟩
    · exact q.elim
  · exact q.elim
/-- a list's parts -/
def gL (n : Nat) (r : GMs) : GM := fun p t h => match p with
  | .lst xs => if xs.length = n then r xs t h else none
  | .obj i => match h[i]? with
    | some (.lst xs) => if xs.length = n then r xs t h else none
    | _ => none
  | _ => none
theorem wg_lst {es : List Expr} {k : Nat} {pos : Pos} {r : GMs} {n : Nat} (hc : X.calm = true) (hr : PGms X es r) (hn : (assignEach es X.env).length = n := by rfl) (hst : (assignEach es X.env).findIdx? (·.1) = none := by rfl) : PGm X (.Tuple es k pos) (gL n r) := by
  refine PG_imp (pg_unl hc hr hn hst) fun v s H Q q => ?_
  obtain ⟨as, h, t, p, rh, rs, rp, q⟩ := q
  unfold gL at q
  split at q
  · rename_i xs
    unfold Rep at rp
    obtain ⟨a, vs, e1, e0, e2, e3⟩ := rp
    split at q
    · rename_i l
      exact ⟨a, vs, e1, .of e2, by rw [← e3.len, l], as, h, t, xs, rh, rs, e3, q⟩
    · exact q.elim
  · rename_i i
    unfold Rep at rp
    obtain ⟨a, e1, e2⟩ := rp
    split at q
    · rename_i xs z
      split at q
      · rename_i l
        obtain ⟨vs, e3, e4⟩ := rh.obj z e2
        exact ⟨a, vs, e1, .of e3, by rw [← e4.len, l], as, h, t, xs, rh, rs, e4, q⟩
      · exact q.elim
    · exact q.elim
  · exact q.elim

/-! ### o[i] = v -/
def keyOf : P → Option Key
  | .int i => some (.inl i)
  | .str x => some (.inr x)
  | _ => none
theorem keyOf_ok {K : PySem.W.Frag} {as : List Addr} {H : Hp} {p : P} {v : V} {k : Key} (r : Rep K as H p v) (e : keyOf p = some k) : v = kV k := by
  unfold keyOf at e
  split at e
  · cases e; exact r
  · cases e; exact r
  · cases e
def putP (kvs : List (Key × P)) (k : Key) (p : P) : List (Key × P) := if kvs.any (fun kv => decide (kv.1 = k)) then kvs.map fun kv => if kv.1 = k then (kv.1, p) else kv else kvs ++ [(k, p)]
def getP (kvs : List (Key × P)) (k : Key) : Option P := (kvs.find? fun kv => decide (kv.1 = k)).map (·.2)
def setItemP (o i v : P) (h : AH) : Option AH := match o with
  | .obj n => match h[n]? with
    | some (.lst xs) => (match i with
      | .int k => (ixN xs.length k).map fun j => h.set n (.lst (xs.set j v))
      | _ => none)
    | some (.dct kvs) => (match keyOf i with
      | some k => if kvs.length < 16777216 then some (h.set n (.dct (putP kvs k v))) else none
      | none => none)
    | _ => none
  | _ => none
/-- the pairs of a dict -/
def RepK (K : PySem.W.Frag) (as : List Addr) (H : Hp) (kvs : List (Key × P)) (ws : List (Key × V)) : Prop := ws.map (·.1) = kvs.map (·.1) ∧ Reps K as H (kvs.map (·.2)) (ws.map (·.2))
theorem repK_nil {K : PySem.W.Frag} {as : List Addr} {H : Hp} : RepK K as H [] [] := ⟨rfl, reps_nil⟩
theorem repK_cons {K : PySem.W.Frag} {as : List Addr} {H : Hp} {kv : Key × P} {kvs : List (Key × P)} {ws : List (Key × V)} (h : RepK K as H (kv :: kvs) ws) : ∃ v r, ws = (kv.1, v) :: r ∧ Rep K as H kv.2 v ∧ RepK K as H kvs r := by
  cases ws with
  | nil =>
    have z := h.1
    simp at z
  | cons w ws =>
    obtain ⟨z1, z2⟩ := h
    simp only [List.map_cons, List.cons.injEq] at z1
    obtain ⟨v, r, e1, e2, e3⟩ := reps_inv z2
    simp only [List.map_cons, List.cons.injEq] at e1
    obtain ⟨e4, e5⟩ := e1
    refine ⟨w.2, ws, ?_, by rw [e4]; exact e2, z1.2, by rw [e5]; exact e3⟩
    rw [← z1.1]
theorem repK_mk {K : PySem.W.Frag} {as : List Addr} {H : Hp} {kv : Key × P} {kvs : List (Key × P)} {v : V} {ws : List (Key × V)} (e : Rep K as H kv.2 v) (h : RepK K as H kvs ws) : RepK K as H (kv :: kvs) ((kv.1, v) :: ws) :=
  ⟨by simp [h.1], reps_cons e h.2⟩
theorem RepK.mono {K : PySem.W.Frag} {as as' : List Addr} {H H' : Hp} (x : Ext as H as' H') {kvs : List (Key × P)} {ws : List (Key × V)} (h : RepK K as H kvs ws) : RepK K as' H' kvs ws := ⟨h.1, h.2.mono x⟩
theorem RepK.len {K : PySem.W.Frag} {as : List Addr} {H : Hp} {kvs : List (Key × P)} {ws : List (Key × V)} (h : RepK K as H kvs ws) : kvs.length = ws.length := by
  have z := congrArg List.length h.1
  simpa using z.symm
theorem RepK.any {K : PySem.W.Frag} {as : List Addr} {H : Hp} {kvs : List (Key × P)} {ws : List (Key × V)} (h : RepK K as H kvs ws) (k : Key) : (ws.any fun kv => decide (kv.1 = k)) = kvs.any fun kv => decide (kv.1 = k) := by
  have z : ∀ {α : Type} (l : List (Key × α)), (l.any fun kv => decide (kv.1 = k)) = (l.map (·.1)).any fun q => decide (q = k) := fun l => by
    rw [List.any_map]
    rfl
  rw [z, z, h.1]
theorem RepK.get {K : PySem.W.Frag} {as : List Addr} {H : Hp} (k : Key) : ∀ {kvs : List (Key × P)} {ws : List (Key × V)}, RepK K as H kvs ws → (∀ p, getP kvs k = some p → ∃ v, valV ws k = some v ∧ Rep K as H p v) ∧ (getP kvs k = none → valV ws k = none)
  | [], ws, h => by
    have z : ws = [] := by
      have := h.len
      cases ws with
      | nil => rfl
      | cons _ _ => simp at this
    subst z
    exact ⟨fun p e => by simp [getP] at e, fun _ => rfl⟩
  | kv :: kvs, ws, h => by
    obtain ⟨v, r, rfl, e1, e2⟩ := repK_cons h
    have ih := RepK.get k e2
    by_cases hk : kv.1 = k
    · refine ⟨fun p e => ?_, fun e => ?_⟩
      · have z : getP (kv :: kvs) k = some kv.2 := by simp [getP, hk]
        rw [z] at e
        cases e
        exact ⟨v, valV_pos hk, e1⟩
      · simp [getP, hk] at e
    · have z : getP (kv :: kvs) k = getP kvs k := by simp [getP, hk]
      rw [z, valV_neg (p := (kv.1, v)) hk]
      exact ih
theorem RepK.put {K : PySem.W.Frag} {as : List Addr} {H : Hp} (k : Key) {p : P} {v : V} (e : Rep K as H p v) {kvs : List (Key × P)} {ws : List (Key × V)} (h : RepK K as H kvs ws) : RepK K as H (putP kvs k p) (putK ws k v) := by
  unfold putP putK
  rw [h.any k]
  split
  · have z : ∀ {kvs : List (Key × P)} {ws : List (Key × V)}, RepK K as H kvs ws → RepK K as H (kvs.map fun kv => if kv.1 = k then (kv.1, p) else kv) (ws.map fun kv => if kv.1 = k then (kv.1, v) else kv) := by
      intro kvs
      induction kvs with
      | nil =>
        intro ws h
        have q := h.len
        cases ws with
        | nil => exact repK_nil
        | cons _ _ => simp at q
      | cons kv kvs ih =>
        intro ws h
        obtain ⟨u, r, rfl, e1, e2⟩ := repK_cons h
        by_cases hk : kv.1 = k
        · simp only [List.map_cons, if_pos hk]
          exact repK_mk (kv := (kv.1, p)) e (ih e2)
        · simp only [List.map_cons, if_neg hk]
          exact repK_mk e1 (ih e2)
    exact z h
  · exact ⟨by simp [h.1], by simpa using h.2.app (reps_cons e reps_nil)⟩
def TSetA (K : PySem.W.Frag) : TSet := fun o i v H Q => ∃ as h p q r h', RelH K as h H ∧ Rep K as H p o ∧ Rep K as H q i ∧ Rep K as H r v ∧ setItemP p q r h = some h' ∧ ∀ H', Ext as H as H' → RelH K as h' H' → Q H'
theorem pset_any {k : Nat} (hk : Here X k) : PSet X (TSetA X.K) := by
  intro pins s σ H o i v ov iv u Q I ro ri rv hq
  obtain ⟨as, h, p, q, r, h', rh, rp, rq, rr, e, fin⟩ := hq
  unfold setItemP at e
  split at e
  · rename_i n
    unfold Rep at rp
    obtain ⟨a, rfl, ea⟩ := rp
    split at e
    · rename_i xs z
      obtain ⟨vs, e1, e2⟩ := rh.obj z ea
      split at e
      · rename_i kk
        cases ej : ixN xs.length kk with
        | none => rw [ej] at e; cases e
        | some j =>
          rw [ej] at e
          cases e
          rw [e2.len] at ej
          refine set_list pins s σ H _ _ _ _ _ _ Q I ro ri rv ⟨a, vs, kk, j, rfl, rq, e1, ej, ?_⟩
          have xe := Ext.put (o := .lst (vs.set j v)) rh ea
          exact fin _ xe (rh.put ea ⟨_, upd_same, (e2.mono xe).set (rr.mono xe) j⟩)
      · cases e
    · rename_i kvs z
      obtain ⟨ws, e1, e2⟩ := rh.obj z ea
      split at e
      · rename_i kk hkk
        split at e
        · rename_i hl
          cases e
          have ev := keyOf_ok rq hkk
          subst ev
          cases ro
          have xe := Ext.put (o := .dK (putK ws kk v)) rh ea
          have e3 : RepK X.K as H kvs ws := e2
          refine d_setItem (hu_of hk.room) I (DPut.k (k := kk) (v := v) e1 (by rw [sizeLine_eq, ← e3.len]; exact hl)) ri rv fun s' I' => ⟨_, I', fin _ xe (rh.put ea ?_)⟩
          have z2 := (e3.mono xe).put kk (rr.mono xe)
          exact ⟨_, upd_same, z2.1, z2.2⟩
        · cases e
      · cases e
    · cases e
  · cases e
end
end AM

/-! AM6: stores into slots and places; statements; loops. -/
namespace AM
open PySem PySem.Spec PyProof.Rows L2
open Classical in
noncomputable section
variable {X : Cx} {W : WX}
/-- nothing is raised -/
abbrev W0 : WX := fun _ _ _ _ => False
theorem takes_none : Takes X W0 := fun u s' x => by
  obtain ⟨_, _, _, _, _, _, _, _, _, _, _, _, _, _, _, _, no⟩ := x
  exact no.elim

/-! ### slots -/
def putSl (i : Nat) (p : P) (fs : List (Option P)) : List (Option P) := (fs ++ List.replicate (i + 1 - fs.length) none).set i (some p)
theorem RelH.slot {K : PySem.W.Frag} {as : List Addr} {h : AH} {H : Hp} (r : RelH K as h H) {n i : Nat} {a dx : Addr} {C : Str} {fs : List (Option P)} {vs : List (Option V)} {p : P} {v : V} (e : as[n]? = some a)
    (hd : (∃ u, H dx = some (.own u)) ∨ H dx = some (.xd [])) (ne : dx ≠ a) (hf : ∀ (i : Nat) (p : P), fs[i]? = some (some p) → ∃ v, vs[i]? = some (some v) ∧ Rep K as H p v) (hp : Rep K as H p v) :
    Ext as H as (SlX.slH H a (He.ga K C) dx (SlX.putS i v vs)) ∧ RelH K as (h.set n (.ins C (putSl i p fs))) (SlX.slH H a (He.ga K C) dx (SlX.putS i v vs)) := by
  have ma : a ∈ as := List.mem_of_getElem? e
  have x : Ext as H as (SlX.slH H a (He.ga K C) dx (SlX.putS i v vs)) := by
    refine ⟨⟨[], by simp⟩, fun b o q m no => ⟨?_, m⟩⟩
    have ba : b ≠ a := fun z => m (z ▸ ma)
    by_cases bd : b = dx
    · subst bd
      rcases hd with ⟨u, z⟩ | z
      · rw [q] at z
        exact absurd (Option.some.inj z) (no u)
      · rw [q] at z
        rw [Option.some.inj z]
        unfold SlX.slH
        rw [upd_ne ne, upd_same]
    · rw [SlX.slH_ne ba bd]
      exact q
  refine ⟨x, by simp [r.len], r.nd, fun m u z => ?_⟩
  by_cases hn : n = m
  · subst hn
    by_cases hl : n < h.length
    · rw [List.getElem?_set_self hl] at z
      cases z
      refine ⟨a, e, dx, _, SlX.slH_slt ne, fun j q y => ?_⟩
      by_cases hj : i = j
      · subst hj
        have y' : (putSl i p fs)[i]? = some (some p) := by
          unfold putSl
          exact List.getElem?_set_self (by simp only [List.length_append, List.length_replicate]; omega)
        rw [y'] at y
        cases y
        exact ⟨v, SlX.putS_get i v vs, hp.mono x⟩
      · have y' : fs[j]? = some (some q) := by
          unfold putSl at y
          rw [List.getElem?_set_ne hj] at y
          by_cases hj : j < fs.length
          · rw [List.getElem?_append_left hj] at y
            exact y
          · rw [List.getElem?_append_right (by omega), List.getElem?_replicate] at y
            split at y <;> cases y
        obtain ⟨w, e1, e2⟩ := hf j q y'
        exact ⟨w, (SlX.putS_ne (Ne.symm hj)).mpr e1, e2.mono x⟩
    · rw [List.getElem?_eq_none (by simpa using hl)] at z
      cases z
  · rw [List.getElem?_set_ne hn] at z
    obtain ⟨b, q1, q2⟩ := r.at_ m u z
    have mb : b ∈ as := List.mem_of_getElem? q1
    refine ⟨b, q1, q2.mono x (SlX.slH_ne ?_ ?_) r.xds⟩
    · intro z
      subst z
      exact hn ((List.getElem?_inj (List.getElem?_eq_some_iff.mp e).1 r.nd).mp (e.trans q1.symm))
    · intro z
      subst z
      rcases hd with ⟨u, z⟩ | z
      · exact (r.live mb).2.2.2 u z
      · exact (r.live mb).2.2.1 _ z
def setSlotP (C : Str) (i : Nat) (o v : P) (h : AH) : Option AH := match insOf h o with
  | some (n, D, fs) => if D = C then some (h.set n (.ins C (putSl i v fs))) else none
  | none => none
/-- o.f = , as a target -/
def gSl (C : Str) (i : Nat) (o : EM) : GM := fun p t h => match o t h with
  | .ok x h1 => (setSlotP C i x p h1).map fun h2 => (t, h2)
  | _ => none
theorem slot_store {C f : Str} {i : Nat} {pins : List (Addr × Obj)} {σ : L2.St} {H : Hp} {s : Shared} {as : List Addr} {h h' : AH} {x p : P} {vx v : V} {ux u : Value} {Q : Unit → Shared → Prop} {A : Around} {E : Value → Shared → Prop} (F : HasS X.K C f i) (I : Inv X pins σ H s) (rh : RelH X.K as h H) (rx : Rep X.K as H x vx) (rp : Rep X.K as H p v)
    (ex : RelV vx ux) (ev : RelV v u) (e : setSlotP C i x p h = some h') (q : ∀ s' H', Inv X pins σ H' s' → Ext as H as H' → RelH X.K as h' H' → Q () s') : wpAny (model X.prog X.w) A (setAttr ux f u) Q E s := by
  obtain ⟨p0, S⟩ := F.ex
  unfold setSlotP at e
  split at e
  · rename_i n D fs z
    split at e
    · rename_i eD
      subst eD
      cases e
      obtain ⟨_, _, b, dx, vs, evx, eb, hsl, hf⟩ := insOf_ok rh rx z
      subst evx
      cases ex
      refine SlX.setslot_ok I hsl F.cls S ev fun s' I' => ?_
      have ne := (SlX.slt_at I hsl).1
      have hd : (∃ u, H dx = some (.own u)) ∨ H dx = some (.xd []) := by
        rcases hsl with ⟨z1, _⟩ | ⟨_, z2⟩
        · obtain ⟨_, _, _, _, _, z3⟩ := ins_get I.hok z1
          exact .inl ⟨_, z3⟩
        · exact .inr z2
      obtain ⟨x1, r1⟩ := RelH.slot (C := D) (i := i) rh eb hd ne hf rp
      exact q s' _ I' x1 r1
    · cases e
  · cases e
theorem wg_slot {C f : Str} {i : Nat} {o : Expr} {mo : EM} {pos : Pos} (F : HasS X.K C f i) (ho : PEm X W0 o mo) : PGm X (.Attribute o f pos) (gSl C i mo) := by
  refine ⟨fun pins s σ H v u Q I r q => ?_⟩
  obtain ⟨as, h, t, p, rh, rs, rp, q⟩ := q
  rw [assign_Attribute]
  unfold gSl at q
  cases z : mo t h with
  | bad => rw [z] at q; exact q.elim
  | exc _ _ _ => rw [z] at q; exact q.elim
  | ok x h1 =>
    rw [z] at q
    dsimp only at q
    refine wpAny_bind (wpAny_holding (thn (ho.run pins s σ H (fun vx H1 => ∃ as1, Ext as H as1 H1 ∧ RelH X.K as1 h1 H1 ∧ Rep X.K as1 H1 x vx) I ⟨as, h, t, rh, rs, by rw [z]; exact fun a2 H2 b x2 r2 e2 => ⟨a2, x2, r2, e2⟩⟩) fun ov s1 y => ?_))
    obtain ⟨vx, H1, I1, rv, as1, x1, r1, e1⟩ := y
    refine wpAny_bind (wpAny_standAt ?_)
    cases y : setSlotP C i x p h1 with
    | none => rw [y] at q; exact q.elim
    | some h2 =>
      rw [y] at q
      refine wpAny_bind (wpAny_holding (slot_store F I1 r1 e1 (rp.mono x1) rv r y fun s2 H2 I2 x2 r2 => ?_))
      exact wpAny_release ⟨σ, H2, I2, q as1 H2 σ (x1.trans x2) r2 (rs.mono (x1.trans x2))⟩
/-- o[i] = , as a target -/
def gS (o i : EM) : GM := fun p t h => match o t h with
  | .ok x h1 => (match i t h1 with
    | .ok y h2 => (setItemP x y p h2).map fun h3 => (t, h3)
    | _ => none)
  | _ => none
theorem wg_sub {k : Nat} {o i : Expr} {mo mi : EM} {pos : Pos} (hk : Here X k) (ho : PEm X W0 o mo) (hi : PEm X W0 i mi)
    (ha : ∀ v, assign (.Subscript o i pos) X.env v = (do
      let ov ← holding [v] (eval o X.env)
      let iv ← holding [v, ov] (eval i X.env)
      standAt pos
      holding [v, ov, iv] (setItem ov iv v)
      release [v, ov, iv] []) := by intro _; rfl) : PGm X (.Subscript o i pos) (gS mo mi) := by
  refine PG_imp (pg_sub ho hi (pset_any hk) ha) fun v s H Q q => ?_
  obtain ⟨as, h, t, p, rh, rs, rp, q⟩ := q
  unfold gS at q
  cases z : mo t h with
  | bad => rw [z] at q; exact q.elim
  | exc _ _ _ => rw [z] at q; exact q.elim
  | ok x h1 =>
    rw [z] at q
    refine ⟨as, h, t, rh, rs, ?_⟩
    rw [z]
    intro as1 H1 vx x1 r1 e1
    dsimp only at q
    cases y : mi t h1 with
    | bad => rw [y] at q; exact q.elim
    | exc _ _ _ => rw [y] at q; exact q.elim
    | ok yi h2 =>
      rw [y] at q
      refine ⟨as1, h1, t, r1, rs.mono x1, ?_⟩
      rw [y]
      intro as2 H2 vi x2 r2 e2
      dsimp only at q
      cases w : setItemP x yi p h2 with
      | none => rw [w] at q; exact q.elim
      | some h3 =>
        rw [w] at q
        exact ⟨as2, h2, x, yi, p, h3, r2, e1.mono x2, e2, rp.mono (x1.trans x2), w, fun H3 x3 r3 => q as2 H3 s ((x1.trans x2).trans x3) r3 (rs.mono ((x1.trans x2).trans x3))⟩

/-! ### statements -/
def sNx : SM := fun t h => .nx t h
def sQ (a b : SM) : SM := fun t h => (a t h).seq b
theorem ws_nil : PSsm X W [] sNx := PSs_imp pss_nil fun D s H q => by
  obtain ⟨as, h, t, rh, rs, q⟩ := q
  exact q as H s (Ext.refl _ _) rh rs
theorem ws_one {st : Stmt} {m : SM} (h : PSm X W st m) : PSsm X W [st] m := pss_one h
theorem ws_cons {st : Stmt} {sts : List Stmt} {a b : SM} (h1 : PSm X W st a) (h2 : PSsm X W sts b) : PSsm X W (st :: sts) (sQ a b) := by
  refine PSs_imp (pss_cons h1 h2) fun D s H q => ?_
  obtain ⟨as, h, t, rh, rs, q⟩ := q
  refine ⟨as, h, t, rh, rs, ?_⟩
  unfold sQ at q
  cases z : a t h with
  | nx t1 h1 =>
    rw [z] at q
    exact fun as' H' s' x r e => ⟨as', h1, t1, r, e, PostS.ext (o := b t1 h1) q x⟩
  | rt p h1 => rw [z] at q; exact q
  | bk t1 h1 => rw [z] at q; exact q
  | ct t1 h1 => rw [z] at q; exact q
  | exc c p t1 h1 => rw [z] at q; exact q
  | bad => rw [z] at q; exact q
/-- from a value on -/
theorem PostS.toS {α β : Type} {R : List Addr → Hp → α → β → Prop} {K : PySem.W.Frag} {s : L2.St} {as : List Addr} {H : Hp} {o : Out α} {t : AM.Loc} {f : α → AH → OutS} {D : Ends} (rs : RepS K as H t s) (q : PostS K W as H (o.toS t f) D) :
    Post R K W s as H o (fun b H1 => ∃ as1 h1 a, Ext as H as1 H1 ∧ RelH K as1 h1 H1 ∧ R as1 H1 a b ∧ PostS K W as1 H1 (f a h1) D) := by
  cases o with
  | ok a h => exact fun a2 H2 b x2 r e => ⟨a2, h, a, x2, r, e, PostS.ext (o := f a h) q x2⟩
  | exc c p h => exact fun a2 H2 d w x r e1 e2 => q a2 H2 s d w x r (rs.mono x) e1 e2
  | bad => exact q
def sE (m : EM) : SM := fun t h => (m t h).toS t fun _ h1 => .nx t h1
theorem w_expr {e : Expr} {m : EM} {pos : Pos} (he : PEm X W e m) (hs : swapsWith e none pos.line X.env = pure false := by rfl) : PSm X W (.Expr e pos) (sE m) := by
  refine PS_imp (ps_expr he hs) fun D s H q => ?_
  obtain ⟨as, h, t, rh, rs, q⟩ := q
  refine ⟨as, h, t, rh, rs, (PostS.toS (R := Rep X.K) rs q).mono fun b H1 z => ?_⟩
  obtain ⟨as1, h1, a, x1, r1, e1, q1⟩ := z
  exact q1 as1 H1 s (Ext.refl _ _) r1 (rs.mono x1)
def sR (m : EM) : SM := fun t h => (m t h).toS t fun p h1 => .rt p h1
theorem w_ret {e : Expr} {m : EM} {pos : Pos} (he : PEm X W e m) : PSm X W (.Return (some e) pos) (sR m) := by
  refine PS_imp (ps_ret he) fun D s H q => ?_
  obtain ⟨as, h, t, rh, rs, q⟩ := q
  refine ⟨as, h, t, rh, rs, (PostS.toS (R := Rep X.K) rs q).mono fun b H1 z => ?_⟩
  obtain ⟨as1, h1, a, x1, r1, e1, q1⟩ := z
  exact q1 as1 H1 b (Ext.refl _ _) r1 e1
def sRN : SM := fun _ h => .rt .non h
theorem w_retN {pos : Pos} : PSm X W (.Return none pos) sRN := PS_imp ps_retN fun D s H q => by
  obtain ⟨as, h, t, rh, rs, q⟩ := q
  exact q as H .non (Ext.refl _ _) rh rfl
theorem w_pass {pos : Pos} : PSm X W (.Pass pos) sNx := PS_imp ps_pass fun D s H q => by
  obtain ⟨as, h, t, rh, rs, q⟩ := q
  exact q as H s (Ext.refl _ _) rh rs
def sBk : SM := fun t h => .bk t h
theorem w_break {pos : Pos} : PSm X W (.Break pos) sBk := PS_imp ps_break fun D s H q => by
  obtain ⟨as, h, t, rh, rs, q⟩ := q
  exact q as H s (Ext.refl _ _) rh rs
def sCt : SM := fun t h => .ct t h
theorem w_continue {pos : Pos} : PSm X W (.Continue pos) sCt := PS_imp ps_continue fun D s H q => by
  obtain ⟨as, h, t, rh, rs, q⟩ := q
  exact q as H s (Ext.refl _ _) rh rs
def sBad : SM := fun _ _ => .bad
theorem w_never {st : Stmt} : PSm X W st sBad := PS_imp (ps_never (st := st)) fun D s H q => by
  obtain ⟨as, h, t, rh, rs, q⟩ := q
  exact q.elim
theorem ws_never {sts : List Stmt} : PSsm X W sts sBad := PSs_imp (pss_never (sts := sts)) fun D s H q => by
  obtain ⟨as, h, t, rh, rs, q⟩ := q
  exact q.elim
def sIf (c : TM) (a b : SM) : SM := fun t h => (c t h).toS t fun k h1 => if k = true then a t h1 else b t h1
theorem w_if {c : Expr} {p q : List Stmt} {mc : TM} {ma mb : SM} {pos : Pos} (hc : PTm X W c mc) (ha : PSsm X W p ma) (hb : PSsm X W q mb) : PSm X W (.If c p q pos) (sIf mc ma mb) := by
  refine PS_imp (ps_if hc ha hb) fun D s H q => ?_
  obtain ⟨as, h, t, rh, rs, q⟩ := q
  refine ⟨as, h, t, rh, rs, (PostS.toS (R := fun _ _ a b => a = b) rs q).mono fun k H1 z => ?_⟩
  obtain ⟨as1, h1, a, x1, r1, e1, q1⟩ := z
  subst e1
  cases a with
  | true => exact ⟨as1, h1, t, r1, rs.mono x1, q1⟩
  | false => exact ⟨as1, h1, t, r1, rs.mono x1, q1⟩
/-- target = value -/
def sA (m : EM) (g : GM) : SM := fun t h => (m t h).toS t fun p h1 => match g p t h1 with
  | some th => .nx th.1 th.2
  | none => .bad
theorem asg_post {K : PySem.W.Frag} {as : List Addr} {H : Hp} {o : Option (AM.Loc × AH)} {D : Ends} (q : PostS K W as H (match o with
  | some th => .nx th.1 th.2
  | none => .bad) D) : PostG K as H o D.nx := by
  cases o with
  | none => exact q
  | some th => exact q
theorem w_asg {tg e : Expr} {m : EM} {g : GM} {pos : Pos} (he : PEm X W e m) (hg : PGm X tg g) (hs : swapsWithSole [tg] e pos.line X.env = pure false := by rfl) (hw : swappedStores [tg] e X.env = pure none := by rfl)
    (h1 : (assignEach [tg] X.env).map (·.2) = [assign tg X.env] := by rfl) : PSm X W (.Assign [tg] e pos) (sA m g) := by
  refine PS_imp (ps_asg he hg hs hw h1) fun D s H q => ?_
  obtain ⟨as, h, t, rh, rs, q⟩ := q
  refine ⟨as, h, t, rh, rs, (PostS.toS (R := Rep X.K) rs q).mono fun b H1 z => ?_⟩
  obtain ⟨as1, h1, a, x1, r1, e1, q1⟩ := z
  exact ⟨as1, h1, t, a, r1, rs.mono x1, e1, asg_post q1⟩
end
end AM

/-! AM7: data, truth, comparisons, tests. -/
namespace AM
open PySem PySem.Spec PyProof.Rows L2
noncomputable section
variable {X : Cx} {W : WX}

/-! ### data -/
mutual
def dataP (g : Nat → Option PyData) : P → Option PyData
  | .non => some .none
  | .bl b => some (.bool b)
  | .int i => some (.int i)
  | .str x => some (.str x)
  | .tup xs => (datasP g xs).map .tuple
  | .lst xs => (datasP g xs).map .list
  | .obj n => g n
  | .cls _ => none
  | .scr _ => none
def datasP (g : Nat → Option PyData) : List P → Option (List PyData)
  | [] => some []
  | p :: ps => match dataP g p, datasP g ps with
    | some d, some ds => some (d :: ds)
    | _, _ => none
end
/-- what the n-th object is, lists within lists to a depth -/
def resolve (h : AH) : Nat → Nat → Option PyData
  | 0, _ => none
  | k + 1, n => match h[n]? with
    | some (.lst xs) => (datasP (resolve h k) xs).map .list
    | _ => none
def dat (h : AH) (p : P) : Option PyData := dataP (resolve h 4) p
mutual
theorem dp_of {K : PySem.W.Frag} {as : List Addr} {H : Hp} {g : Nat → Option PyData} (hg : ∀ n a d, as[n]? = some a → g n = some d → Dp K H (.ref a) d) : ∀ {p : P} {v : V} {d : PyData}, Rep K as H p v → dataP g p = some d → Dp K H v d
  | .non, _, _, r, e => by
    cases e
    cases r
    exact .non
  | .bl b, _, _, r, e => by
    cases e
    cases r
    exact .bl b
  | .int i, _, _, r, e => by
    cases e
    cases r
    exact .int i
  | .str x, _, _, r, e => by
    cases e
    cases r
    exact .str x
  | .tup xs, _, _, r, e => by
    unfold Rep at r
    obtain ⟨a, vs, rfl, t, q⟩ := r
    unfold dataP at e
    cases z : datasP g xs with
    | none => rw [z] at e; cases e
    | some ds =>
      rw [z] at e
      cases e
      exact .tup t.sq (dps_of hg q z)
  | .lst xs, _, _, r, e => by
    unfold Rep at r
    obtain ⟨a, vs, rfl, _, t, q⟩ := r
    unfold dataP at e
    cases z : datasP g xs with
    | none => rw [z] at e; cases e
    | some ds =>
      rw [z] at e
      cases e
      exact .lst (.of t) (dps_of hg q z)
  | .obj n, _, _, r, e => by
    unfold Rep at r
    obtain ⟨a, rfl, q⟩ := r
    exact hg n a _ q e
  | .cls _, _, _, _, e => by cases e
  | .scr _, _, _, _, e => by cases e
theorem dps_of {K : PySem.W.Frag} {as : List Addr} {H : Hp} {g : Nat → Option PyData} (hg : ∀ n a d, as[n]? = some a → g n = some d → Dp K H (.ref a) d) : ∀ {p : List P} {v : List V} {d : List PyData}, Reps K as H p v → datasP g p = some d → DpAll K H v d
  | [], _, _, r, e => by
    cases e
    rw [reps_inv0 r]
    exact .nil
  | p :: ps, _, _, r, e => by
    obtain ⟨v, vs, rfl, r1, r2⟩ := reps_inv r
    unfold datasP at e
    split at e
    · rename_i d ds z1 z2
      cases e
      exact .cons (dp_of hg r1 z1) (dps_of hg r2 z2)
    · cases e
end
theorem resolve_ok {K : PySem.W.Frag} {as : List Addr} {h : AH} {H : Hp} (rh : RelH K as h H) : ∀ (k n : Nat) (a : Addr) (d : PyData), as[n]? = some a → resolve h k n = some d → Dp K H (.ref a) d
  | 0, _, _, _, _, e => by cases e
  | k + 1, n, a, d, q, e => by
    unfold resolve at e
    split at e
    · rename_i xs z
      obtain ⟨vs, e1, e2⟩ := rh.obj z q
      cases y : datasP (resolve h k) xs with
      | none => rw [y] at e; cases e
      | some ds =>
        rw [y] at e
        cases e
        exact .lst (.of e1) (dps_of (resolve_ok rh k) e2 y)
    · cases e
theorem dat_ok {K : PySem.W.Frag} {as : List Addr} {h : AH} {H : Hp} (rh : RelH K as h H) {p : P} {v : V} {d : PyData} (r : Rep K as H p v) (e : dat h p = some d) : Dp K H v d := dp_of (resolve_ok rh 4) r e

/-! ### truth -/
def truthP (h : AH) : P → Option Bool
  | .non => some false
  | .bl b => some b
  | .int i => some (i != 0)
  | .str x => if x.length ≤ 16777216 then some ((x.length : Int) != 0) else none
  | .tup xs => some (!xs.isEmpty)
  | .lst xs => some (!xs.isEmpty)
  | .obj n => match h[n]? with
    | some (.lst xs) => some (!xs.isEmpty)
    | some (.dct kvs) => some (!kvs.isEmpty)
    | _ => none
  | .cls _ => none
  | .scr xs => some (!xs.isEmpty)
theorem isEmpty_len {α β : Type} {xs : List α} {ys : List β} (h : xs.length = ys.length) : xs.isEmpty = ys.isEmpty := by
  cases xs with
  | nil => cases ys with
    | nil => rfl
    | cons _ _ => simp at h
  | cons _ _ => cases ys with
    | nil => simp at h
    | cons _ _ => rfl
theorem truth_ok {K : PySem.W.Frag} {as : List Addr} {h : AH} {H : Hp} (rh : RelH K as h H) {p : P} {v : V} {b : Bool} (r : Rep K as H p v) (e : truthP h p = some b) : TruV K v H b := by
  cases p with
  | non => cases e; cases r; rfl
  | bl b => cases e; cases r; rfl
  | int i => cases e; cases r; rfl
  | str x =>
    cases r
    have e : (if x.length ≤ 16777216 then some ((x.length : Int) != 0) else none) = some b := e
    split at e
    · rename_i l
      cases e
      exact ⟨by rw [sizeLine_eq]; exact l, rfl⟩
    · cases e
  | tup xs =>
    unfold Rep at r
    obtain ⟨a, vs, rfl, t, q⟩ := r
    cases e
    exact .inr (.inl ⟨vs, t.sq, by rw [isEmpty_len q.len]⟩)
  | lst xs =>
    unfold Rep at r
    obtain ⟨a, vs, rfl, _, t, q⟩ := r
    cases e
    exact .inl ⟨vs, .of t, by rw [isEmpty_len q.len]⟩
  | obj n =>
    unfold Rep at r
    obtain ⟨a, rfl, q⟩ := r
    have e : (match h[n]? with
      | some (.lst xs) => some (!xs.isEmpty)
      | some (.dct kvs) => some (!kvs.isEmpty)
      | _ => none) = some b := e
    split at e
    · rename_i xs z
      cases e
      obtain ⟨vs, e1, e2⟩ := rh.obj z q
      exact .inl ⟨vs, .of e1, by rw [isEmpty_len e2.len]⟩
    · rename_i xs z
      cases e
      obtain ⟨vs, e1, e2⟩ := rh.obj z q
      exact .inr (.inr ⟨vs, e1, by rw [isEmpty_len (RepK.len e2)]⟩)
    · cases e
  | cls _ => cases e
  | scr xs =>
    unfold Rep at r
    obtain ⟨a, vs, o, rfl, _, t, q⟩ := r
    cases e
    exact .inl ⟨vs, .inl (.inr ⟨o, t⟩), by rw [isEmpty_len q.len]⟩

/-! ### tests -/
def tT (m : EM) : TM := fun t h => (m t h).bind fun p h1 => match truthP h1 p with
  | some b => .ok b h1
  | none => .bad
theorem wt_truth {e : Expr} {m : EM} (he : PEm X W e m) (hp : ∀ whole, isTrue e X.env whole = (do let v ← whole; standAt e.pos; holding [v] (truthy v)) := by intro _; rfl) : PTm X W e (tT m) := by
  refine PT_imp (pt_truth he hp) fun s H Q q => ?_
  obtain ⟨as, h, t, rh, rs, q⟩ := q
  refine ⟨as, h, t, rh, rs, (Post.bind (R := Rep X.K) q).mono fun v H1 z => ?_⟩
  obtain ⟨as1, h1, p, x1, r1, e1, q1⟩ := z
  split at q1
  · rename_i b z
    exact ⟨b, truth_ok r1 e1 z, Post.done q1 (Ext.refl _ _) r1 rfl⟩
  · exact q1.elim
def tNt (m : TM) : TM := fun t h => (m t h).bind fun b h1 => .ok (!b) h1
theorem wt_not {e : Expr} {m : TM} {pos : Pos} (he : PTm X W e m) : PTm X W (.UnaryOp .Not e pos) (tNt m) := by
  refine PT_imp (pt_not he) fun s H Q q => ?_
  obtain ⟨as, h, t, rh, rs, q⟩ := q
  refine ⟨as, h, t, rh, rs, (Post.bind (R := fun _ _ a b => a = b) q).mono fun b H1 z => ?_⟩
  obtain ⟨as1, h1, p, x1, r1, e1, q1⟩ := z
  subst e1
  exact Post.done q1 (Ext.refl _ _) r1 rfl
def tAn (m r : TM) : TM := fun t h => (m t h).bind fun b h1 => if b = true then r t h1 else .ok false h1
def tOr (m r : TM) : TM := fun t h => (m t h).bind fun b h1 => if b = true then .ok true h1 else r t h1
theorem wt_and1 {a : Expr} {m : TM} {pos : Pos} (ha : PTm X W a m) : PWm X W (.BoolOp .And [a] pos) m := pw_and1 ha
theorem wt_or1 {a : Expr} {m : TM} {pos : Pos} (ha : PTm X W a m) : PWm X W (.BoolOp .Or [a] pos) m := pw_or1 ha
theorem wt_and {a b : Expr} {rest : List Expr} {m r : TM} {pos : Pos} (ha : PTm X W a m) (hb : PWm X W (.BoolOp .And (b :: rest) pos) r) : PWm X W (.BoolOp .And (a :: b :: rest) pos) (tAn m r) := by
  refine PW_imp (pw_and ha hb) fun s H Q q => ?_
  obtain ⟨as, h, t, rh, rs, q⟩ := q
  refine ⟨as, h, t, rh, rs, (Post.bind (R := fun _ _ a b => a = b) q).mono fun b H1 z => ?_⟩
  obtain ⟨as1, h1, p, x1, r1, e1, q1⟩ := z
  subst e1
  cases p with
  | true => exact ⟨as1, h1, t, r1, rs.mono x1, q1⟩
  | false => exact Post.done (R := fun _ _ a b => a = b) q1 (Ext.refl _ _) r1 rfl
theorem wt_or {a b : Expr} {rest : List Expr} {m r : TM} {pos : Pos} (ha : PTm X W a m) (hb : PWm X W (.BoolOp .Or (b :: rest) pos) r) : PWm X W (.BoolOp .Or (a :: b :: rest) pos) (AM.tOr m r) := by
  refine PW_imp (pw_or ha hb) fun s H Q q => ?_
  obtain ⟨as, h, t, rh, rs, q⟩ := q
  refine ⟨as, h, t, rh, rs, (Post.bind (R := fun _ _ a b => a = b) q).mono fun b H1 z => ?_⟩
  obtain ⟨as1, h1, p, x1, r1, e1, q1⟩ := z
  subst e1
  cases p with
  | false => exact ⟨as1, h1, t, r1, rs.mono x1, q1⟩
  | true => exact Post.done (R := fun _ _ a b => a = b) q1 (Ext.refl _ _) r1 rfl

/-! ### and, or, not as values; the conditional expression -/
def eAn (m r : EM) : EM := fun t h => (m t h).bind fun x h1 => match truthP h1 x with
  | some true => r t h1
  | some false => .ok x h1
  | none => .bad
def eOr (m r : EM) : EM := fun t h => (m t h).bind fun x h1 => match truthP h1 x with
  | some false => r t h1
  | some true => .ok x h1
  | none => .bad
theorem w_one {op : BoolOp} {a : Expr} {m : EM} {pos : Pos} (h : PEm X W a m) : PEm X W (.BoolOp op [a] pos) m := pe_one h
theorem w_and {a b : Expr} {rest : List Expr} {m r : EM} {pos : Pos} (ha : PEm X W a m) (hb : PEm X W (.BoolOp .And (b :: rest) pos) r) : PEm X W (.BoolOp .And (a :: b :: rest) pos) (eAn m r) := by
  refine PE_imp (pe_andT ha hb) fun s H Q q => ?_
  obtain ⟨as, h, t, rh, rs, q⟩ := q
  refine ⟨as, h, t, rh, rs, (Post.bind (R := Rep X.K) q).mono fun v H1 z => ?_⟩
  obtain ⟨as1, h1, p, x1, r1, e1, q1⟩ := z
  split at q1
  · rename_i z
    exact ⟨true, truth_ok r1 e1 z, by rw [if_pos rfl]; exact ⟨as1, h1, t, r1, rs.mono x1, q1⟩⟩
  · rename_i z
    exact ⟨false, truth_ok r1 e1 z, by rw [if_neg Bool.false_ne_true]; exact Post.done q1 (Ext.refl _ _) r1 e1⟩
  · exact q1.elim
theorem w_or {a b : Expr} {rest : List Expr} {m r : EM} {pos : Pos} (ha : PEm X W a m) (hb : PEm X W (.BoolOp .Or (b :: rest) pos) r) : PEm X W (.BoolOp .Or (a :: b :: rest) pos) (eOr m r) := by
  refine PE_imp (pe_orT ha hb) fun s H Q q => ?_
  obtain ⟨as, h, t, rh, rs, q⟩ := q
  refine ⟨as, h, t, rh, rs, (Post.bind (R := Rep X.K) q).mono fun v H1 z => ?_⟩
  obtain ⟨as1, h1, p, x1, r1, e1, q1⟩ := z
  split at q1
  · rename_i z
    exact ⟨false, truth_ok r1 e1 z, by rw [if_neg Bool.false_ne_true]; exact ⟨as1, h1, t, r1, rs.mono x1, q1⟩⟩
  · rename_i z
    exact ⟨true, truth_ok r1 e1 z, by rw [if_pos rfl]; exact Post.done q1 (Ext.refl _ _) r1 e1⟩
  · exact q1.elim
def eNt (m : EM) : EM := fun t h => (m t h).bind fun x h1 => match truthP h1 x with
  | some b => .ok (.bl (!b)) h1
  | none => .bad
theorem w_not {a : Expr} {m : EM} {pos : Pos} (ha : PEm X W a m) : PEm X W (.UnaryOp .Not a pos) (eNt m) := by
  refine PE_imp (pe_notT ha) fun s H Q q => ?_
  obtain ⟨as, h, t, rh, rs, q⟩ := q
  refine ⟨as, h, t, rh, rs, (Post.bind (R := Rep X.K) q).mono fun v H1 z => ?_⟩
  obtain ⟨as1, h1, p, x1, r1, e1, q1⟩ := z
  split at q1
  · rename_i b z
    exact ⟨b, truth_ok r1 e1 z, Post.done q1 (Ext.refl _ _) r1 rfl⟩
  · exact q1.elim
def eIf (c : TM) (a b : EM) : EM := fun t h => (c t h).bind fun k h1 => if k = true then a t h1 else b t h1
theorem w_ifE {c a b : Expr} {mc : TM} {ma mb : EM} {pos : Pos} (hc : PTm X W c mc) (ha : PEm X W a ma) (hb : PEm X W b mb) : PEm X W (.IfExp c a b pos) (eIf mc ma mb) := by
  refine PE_imp (pe_ifExp hc ha hb) fun s H Q q => ?_
  obtain ⟨as, h, t, rh, rs, q⟩ := q
  refine ⟨as, h, t, rh, rs, (Post.bind (R := fun _ _ a b => a = b) q).mono fun b H1 z => ?_⟩
  obtain ⟨as1, h1, p, x1, r1, e1, q1⟩ := z
  subst e1
  cases p with
  | true => exact ⟨as1, h1, t, r1, rs.mono x1, q1⟩
  | false => exact ⟨as1, h1, t, r1, rs.mono x1, q1⟩

/-! ### comparisons by value -/
abbrev CmpF := P → P → AH → Option Bool
/-- the rule r tells what f tells -/
def CmpS (K : PySem.W.Frag) (r : R2) (f : CmpF) : Prop := ∀ {as : List Addr} {h : AH} {H : Hp} {p q : P} {v w : V} {Q : VK} {k : Bool}, RelH K as h H → Rep K as H p v → Rep K as H q w → f p q h = some k → Q (.bl k) H → r v w H Q
def cmpV (f : CmpF) (p q : P) (h : AH) : Out Bool := match f p q h with
  | some k => .ok k h
  | none => .bad
def eCmp (f : CmpF) (a b : EM) : EM := fun t h => (a t h).bind fun x h1 => (b t h1).bind fun y h2 => (cmpV f x y h2).bind fun k h3 => .ok (.bl k) h3
def tCp (f : CmpF) (a b : EM) : TM := fun t h => (a t h).bind fun x h1 => (b t h1).bind fun y h2 => cmpV f x y h2
theorem cmpV_ok {K : PySem.W.Frag} {s : L2.St} {r : R2} {f : CmpF} (hs : CmpS K r f) {as : List Addr} {h : AH} {H : Hp} {p q : P} {v w : V} {Q : Bool → Hp → Prop} (rh : RelH K as h H) (rp : Rep K as H p v) (rq : Rep K as H q w)
    (z : Post (fun _ _ a b => a = b) K W s as H (cmpV f p q h) Q) : r v w H fun c H' => ∃ k, c = .bl k ∧ Q k H' := by
  unfold cmpV at z
  split at z
  · rename_i k e
    exact hs rh rp rq e ⟨k, rfl, Post.done (R := fun _ _ a b => a = b) z (Ext.refl _ _) rh rfl⟩
  · exact z.elim
theorem w_cmp {op : CmpOp} {r : R2} {f : CmpF} {a b : Expr} {ma mb : EM} {pos : Pos} (ho : OpR X (compareOp op) r) (hs : CmpS X.K r f) (ha : PEm X W a ma) (hb : PEm X W b mb) (hm : behindInMarks op b = false := by first | exact nomark _ | rfl | with_unfolding_all rfl) : PEm X W (.Compare a [op] [b] pos) (eCmp f ma mb) := by
  refine PE_imp (pe_cmpR ho ha hb hm) fun s H Q q => ?_
  obtain ⟨as, h, t, rh, rs, q⟩ := q
  refine ⟨as, h, t, rh, rs, (Post.bind (R := Rep X.K) q).mono fun v H1 z => ?_⟩
  obtain ⟨as1, h1, p, x1, r1, e1, q1⟩ := z
  refine ⟨as1, h1, t, r1, rs.mono x1, (Post.bind (R := Rep X.K) q1).mono fun v2 H2 z => ?_⟩
  obtain ⟨as2, h2, p2, x2, r2, e2, q2⟩ := z
  unfold cmpV at q2
  split at q2
  · rename_i k e
    exact hs r2 (e1.mono x2) e2 e (Post.done q2 (Ext.refl _ _) r2 rfl)
  · exact q2.elim
theorem wt_cmp {op : CmpOp} {r : R2} {f : CmpF} {a b : Expr} {ma mb : EM} {pos : Pos} (ho : OpR X (compareOp op) r) (hs : CmpS X.K r f) (ha : PEm X W a ma) (hb : PEm X W b mb) (hm : behindInMarks op b = false := by first | exact nomark _ | rfl | with_unfolding_all rfl) : PTm X W (.Compare a [op] [b] pos) (tCp f ma mb) := by
  refine PT_imp (pt_cmpR ho ha hb hm) fun s H Q q => ?_
  obtain ⟨as, h, t, rh, rs, q⟩ := q
  refine ⟨as, h, t, rh, rs, (Post.bind (R := Rep X.K) q).mono fun v H1 z => ?_⟩
  obtain ⟨as1, h1, p, x1, r1, e1, q1⟩ := z
  refine ⟨as1, h1, t, r1, rs.mono x1, (Post.bind (R := Rep X.K) q1).mono fun v2 H2 z => ?_⟩
  obtain ⟨as2, h2, p2, x2, r2, e2, q2⟩ := z
  exact cmpV_ok hs r2 (e1.mono x2) e2 q2
/-- a op b op' c -/
def tCh (f g : CmpF) (a b c : EM) : TM := fun t h => (a t h).bind fun x h1 => (b t h1).bind fun y h2 => (cmpV f x y h2).bind fun k h3 => if k = true then (c t h3).bind fun z h4 => cmpV g y z h4 else .ok false h3
def eCh (f g : CmpF) (a b c : EM) : EM := fun t h => (tCh f g a b c t h).bind fun k h1 => .ok (.bl k) h1
theorem wt_chain {op op' : CmpOp} {r r' : R2} {f g : CmpF} {a b c : Expr} {ma mb mc : EM} {pos : Pos} (ho : OpR X (compareOp op) r) (hs : CmpS X.K r f) (ho' : OpR X (compareOp op') r') (hs' : CmpS X.K r' g) (ha : PEm X W a ma) (hb : PEm X W b mb) (hc : PEm X W c mc)
    (hm : lastMarks [op, op'] [b, c] = false := by with_unfolding_all rfl) : PTm X W (.Compare a [op, op'] [b, c] pos) (tCh f g ma mb mc) := by
  refine PT_imp (pt_chain ho ho' ha hb hc hm) fun s H Q q => ?_
  obtain ⟨as, h, t, rh, rs, q⟩ := q
  refine ⟨as, h, t, rh, rs, (Post.bind (R := Rep X.K) q).mono fun v H1 z => ?_⟩
  obtain ⟨as1, h1, p, x1, r1, e1, q1⟩ := z
  refine ⟨as1, h1, t, r1, rs.mono x1, (Post.bind (R := Rep X.K) q1).mono fun v2 H2 z => ?_⟩
  obtain ⟨as2, h2, p2, x2, r2, e2, q2⟩ := z
  unfold cmpV at q2
  split at q2
  · rename_i k e
    refine hs r2 (e1.mono x2) e2 e ⟨k, rfl, ?_⟩
    cases k with
    | true =>
      refine ⟨as2, h2, t, r2, rs.mono (x1.trans x2), (Post.bind (R := Rep X.K) (o := mc t h2) (f := fun z h4 => cmpV g p2 z h4) q2).mono fun v3 H3 z => ?_⟩
      obtain ⟨as3, h3, p3, x3, r3, e3, q3⟩ := z
      exact cmpV_ok hs' r3 (e2.mono x3) e3 q3
    | false => exact ⟨false, rfl, Post.done (R := fun _ _ a b => a = b) q2 (Ext.refl _ _) r2 rfl⟩
  · exact q2.elim
end
end AM

/-! AM8: operators and comparisons by value. -/
namespace AM
open PySem PySem.Spec PyProof.Rows L2
noncomputable section
variable {X : Cx} {W : WX} {K : PySem.W.Frag}

/-! ### comparisons -/
def eqP : CmpF := fun p q h => match p, q with
  | .str x, .str y => some (x == y)
  | p, q => match dat h p, dat h q with
    | some d, some e => if SeqAt.shaped d = true ∧ SeqAt.shaped e = true then some (PyData.eqv d e) else none
    | _, _ => none
def neP : CmpF := fun p q h => (eqP p q h).map (!·)
def rEqA (K : PySem.W.Frag) : R2 := fun x y H Q => rEq x y H Q ∨ rEqD K x y H Q
def rNeA (K : PySem.W.Frag) : R2 := fun x y H Q => rNe x y H Q ∨ rNeD K x y H Q
theorem room64 {k : Nat} (hk : Here X k) : X.A.units + 64 < cLine := by
  have z := hk.room.un
  omega
theorem room65 {k : Nat} (hk : Here X k) : X.A.units + 65 < cLine := by
  have z := hk.room.un
  omega
theorem or_eq {k : Nat} (hk : Here X k) : OpR X (compareOp .Eq) (rEqA X.K) := op_eq.or (op_eqD (room64 hk))
theorem or_ne {k : Nat} (hk : Here X k) : OpR X (compareOp .NotEq) (rNeA X.K) := op_ne.or (op_neD (room64 hk))
theorem eqP_cases {p q : P} {h : AH} {b : Bool} (e : eqP p q h = some b) : (∃ x y, p = .str x ∧ q = .str y ∧ b = (x == y)) ∨ ∃ d f, dat h p = some d ∧ dat h q = some f ∧ SeqAt.shaped d = true ∧ SeqAt.shaped f = true ∧ b = PyData.eqv d f := by
  unfold eqP at e
  split at e
  · rename_i x y
    cases e
    exact .inl ⟨x, y, rfl, rfl, rfl⟩
  · split at e
    · rename_i d f z1 z2
      split at e
      · rename_i z3
        cases e
        exact .inr ⟨d, f, z1, z2, z3.1, z3.2, rfl⟩
      · cases e
    · cases e
theorem cs_eq : CmpS K (rEqA K) eqP := fun {as h H p q v w Q k} rh rp rq e z => by
  rcases eqP_cases e with ⟨x, y, rfl, rfl, rfl⟩ | ⟨d, f, h1, h2, h3, h4, rfl⟩
  · cases rp
    cases rq
    refine .inl ⟨rfl, ?_⟩
    rw [dec_str]
    exact z
  · exact .inr ⟨d, f, dat_ok rh rp h1, dat_ok rh rq h2, h3, h4, z⟩
theorem cs_ne : CmpS K (rNeA K) neP := fun {as h H p q v w Q k} rh rp rq e z => by
  unfold neP at e
  obtain ⟨b, e1, e2⟩ := Option.map_eq_some_iff.mp e
  subst e2
  rcases eqP_cases e1 with ⟨x, y, rfl, rfl, rfl⟩ | ⟨d, f, h1, h2, h3, h4, rfl⟩
  · cases rp
    cases rq
    refine .inl ⟨rfl, ?_⟩
    rw [dec_str]
    exact z
  · exact .inr ⟨d, f, dat_ok rh rp h1, dat_ok rh rq h2, h3, h4, z⟩
def intC (f : Int → Int → Bool) : CmpF := fun p q _ => match p, q with
  | .int i, .int j => some (f i j)
  | _, _ => none
theorem cs_int {f : Int → Int → Bool} : CmpS K (rI0 fun i j => .bl (f i j)) (intC f) := fun {as h H p q v w Q k} rh rp rq e z => by
  unfold intC at e
  split at e
  · cases e
    cases rp
    cases rq
    exact ⟨_, _, rfl, rfl, z⟩
  · cases e
abbrev ltP : CmpF := intC fun i j => decide (i < j)
abbrev leP : CmpF := intC fun i j => decide (i ≤ j)
abbrev gtP : CmpF := intC fun i j => decide (j < i)
abbrev geP : CmpF := intC fun i j => decide (j ≤ i)
/-- is None, True, False -/
def isP : CmpF := fun p q _ => match q with
  | .non => (match p with
    | .non => some true
    | _ => some false)
  | .bl b => (match p with
    | .bl a => some (decide (a = b))
    | _ => none)
  | _ => none
def isntP : CmpF := fun p q h => (isP p q h).map (!·)
def rIsA : R2 := fun x y H Q => (y = .non ∧ Q (.bl (decide (x = .non))) H) ∨ rIsB x y H Q
def rIsntA : R2 := fun x y H Q => (y = .non ∧ Q (.bl (!decide (x = .non))) H) ∨ rNotB x y H Q
theorem or_is : OpR X (compareOp .Is) rIsA := op_isN.or op_isBl
theorem or_isnt : OpR X (compareOp .IsNot) rIsntA := op_notN.or op_notBl
theorem not_non {as : List Addr} {H : Hp} {p : P} {v : V} (r : Rep K as H p v) (n : p ≠ .non) : v ≠ .non := by
  cases p with
  | non => exact absurd rfl n
  | bl b => cases r; simp
  | int b => cases r; simp
  | str b => cases r; simp
  | cls b => cases r; simp
  | tup b => unfold Rep at r; obtain ⟨a, vs, rfl, _⟩ := r; simp
  | lst b => unfold Rep at r; obtain ⟨a, vs, rfl, _⟩ := r; simp
  | obj b => unfold Rep at r; obtain ⟨a, rfl, _⟩ := r; simp
  | scr b => unfold Rep at r; obtain ⟨a, vs, o, rfl, _⟩ := r; simp
theorem isP_cases {p q : P} {h : AH} {b : Bool} (e : isP p q h = some b) : (q = .non ∧ ((p = .non ∧ b = true) ∨ (p ≠ .non ∧ b = false))) ∨ ∃ x y, p = .bl x ∧ q = .bl y ∧ b = decide (x = y) := by
  unfold isP at e
  split at e
  · refine .inl ⟨rfl, ?_⟩
    split at e
    · cases e; exact .inl ⟨rfl, rfl⟩
    · rename_i z; cases e; exact .inr ⟨fun y => z y, rfl⟩
  · split at e
    · cases e; exact .inr ⟨_, _, rfl, rfl, rfl⟩
    · cases e
  · cases e
theorem cs_is : CmpS K rIsA isP := fun {as h H p q v w Q k} rh rp rq e z => by
  rcases isP_cases e with ⟨rfl, ⟨rfl, rfl⟩ | ⟨n, rfl⟩⟩ | ⟨x, y, rfl, rfl, rfl⟩
  · cases rp; cases rq; exact .inl ⟨rfl, by simpa using z⟩
  · cases rq; exact .inl ⟨rfl, by simpa [not_non rp n] using z⟩
  · cases rp; cases rq; exact .inr ⟨x, y, rfl, rfl, z⟩
theorem cs_isnt : CmpS K rIsntA isntP := fun {as h H p q v w Q k} rh rp rq e z => by
  unfold isntP at e
  obtain ⟨b, e1, e2⟩ := Option.map_eq_some_iff.mp e
  subst e2
  rcases isP_cases e1 with ⟨rfl, ⟨rfl, rfl⟩ | ⟨n, rfl⟩⟩ | ⟨x, y, rfl, rfl, rfl⟩
  · cases rp; cases rq; exact .inl ⟨rfl, by simpa using z⟩
  · cases rq; exact .inl ⟨rfl, by simpa [not_non rp n] using z⟩
  · cases rp; cases rq; exact .inr ⟨x, y, rfl, rfl, z⟩
/-- in: data in lists, flat things in tuples, keys in dicts, texts in texts -/
def flatP : P → Bool
  | .non => true
  | .bl _ => true
  | .int _ => true
  | .str _ => true
  | _ => false
def flatD : P → PyData
  | .non => .none
  | .bl b => .bool b
  | .int i => .int i
  | .str x => .str x
  | _ => .none
def inP : CmpF := fun p q h => match q with
  | .tup xs => if flatP p = true ∧ xs.all flatP = true then some (xs.any fun y => PyData.eqv (flatD y) (flatD p)) else none
  | .str y => (match p with
    | .str x => some (!(Builtin.Str.occurrences y x 0 y.length 1).isEmpty)
    | _ => none)
  | .lst xs => if flatP p = true ∧ xs.all flatP = true then some (xs.any fun y => PyData.eqv (flatD y) (flatD p)) else
      (match dat h p, dat h q with
      | some d, some (.list ds) => if SeqAt.shaped d = true ∧ SeqAt.shaped (.list ds) = true then some (ds.any fun z => PyData.eqv z d) else none
      | _, _ => none)
  | .obj n => (match h[n]? with
    | some (.dct kvs) => (keyOf p).map fun k => (getP kvs k).isSome
    | _ => (match dat h p, dat h q with
      | some d, some (.list ds) => if SeqAt.shaped d = true ∧ SeqAt.shaped (.list ds) = true then some (ds.any fun z => PyData.eqv z d) else none
      | _, _ => none))
  | _ => none
def notinP : CmpF := fun p q h => (inP p q h).map (!·)
def rDIn (neg : Bool) : R2 := fun x y H Q => ∃ a o, y = .ref a ∧ DGet H a x o ∧ Q (.bl (if neg then !o.isSome else o.isSome)) H
theorem op_din {k : Nat} (hk : Here X k) : OpR X (compareOp .In) (rDIn false) := by
  intro pins s σ H x y v u Q I rx ry h
  obtain ⟨a, o, rfl, g, q⟩ := h
  cases ry
  exact d_in (hu_of hk.room) I g rx fun s' I' => ⟨.bl o.isSome, H, I', rfl, q⟩
theorem op_dnotin {k : Nat} (hk : Here X k) : OpR X (compareOp .NotIn) (rDIn true) := by
  intro pins s σ H x y v u Q I rx ry h
  obtain ⟨a, o, rfl, g, q⟩ := h
  cases ry
  exact d_notIn (hu_of hk.room) I g rx fun s' I' => ⟨.bl (!o.isSome), H, I', rfl, q⟩
def rInS (neg : Bool) : R2 := fun x y H Q => ∃ i j, x = .str i ∧ y = .str j ∧ Q (.bl (if neg then !(!(Builtin.Str.occurrences j i 0 j.length 1).isEmpty) else !(Builtin.Str.occurrences j i 0 j.length 1).isEmpty)) H
def rInA (K : PySem.W.Frag) : R2 := fun x y H Q => ((rIn K false x y H Q ∨ rInD K x y H Q) ∨ rDIn false x y H Q) ∨ rInS false x y H Q
def rNotinA (K : PySem.W.Frag) : R2 := fun x y H Q => ((rIn K true x y H Q ∨ rNotInD K x y H Q) ∨ rDIn true x y H Q) ∨ rInS true x y H Q
theorem or_in {k : Nat} (hk : Here X k) : OpR X (compareOp .In) (rInA X.K) := ((op_in_seq.or (op_inD (room65 hk))).or (op_din hk)).or op_in_str
theorem or_notin {k : Nat} (hk : Here X k) : OpR X (compareOp .NotIn) (rNotinA X.K) := ((op_notIn_seq.or (op_notInD (room65 hk))).or (op_dnotin hk)).or op_notin_str
theorem flat_rep {as : List Addr} {H : Hp} {p : P} {v : V} (r : Rep K as H p v) (f : flatP p = true) : flatV v = true ∧ ∀ {q : P} {w : V}, Rep K as H q w → flatP q = true → eqV v w = PyData.eqv (flatD p) (flatD q) := by
  cases p with
  | non => cases r; refine ⟨rfl, fun {q w} s g => ?_⟩; cases q <;> first | (cases s; rfl) | cases g
  | bl b => cases r; refine ⟨rfl, fun {q w} s g => ?_⟩; cases q <;> first | (cases s; rfl) | cases g
  | int b => cases r; refine ⟨rfl, fun {q w} s g => ?_⟩; cases q <;> first | (cases s; rfl) | cases g
  | str b => cases r; refine ⟨rfl, fun {q w} s g => ?_⟩; cases q <;> first | (cases s; rfl) | cases g
  | cls b => cases f
  | tup b => cases f
  | lst b => cases f
  | obj b => cases f
  | scr b => cases f
theorem flats_rep {as : List Addr} {H : Hp} {p : P} {v : V} (r : Rep K as H p v) (f : flatP p = true) : ∀ {xs : List P} {vs : List V}, Reps K as H xs vs → xs.all flatP = true → vs.all flatV = true ∧ inV v vs = xs.any fun y => PyData.eqv (flatD y) (flatD p)
  | [], _, t, _ => by rw [reps_inv0 t]; exact ⟨rfl, rfl⟩
  | x :: xs, _, t, g => by
    obtain ⟨u, us, rfl, t1, t2⟩ := reps_inv t
    rw [List.all_cons, Bool.and_eq_true] at g
    obtain ⟨h1, h2⟩ := flats_rep r f t2 g.2
    obtain ⟨h3, h4⟩ := flat_rep t1 g.1
    refine ⟨by rw [List.all_cons, h3, h1]; rfl, ?_⟩
    unfold inV at h2 ⊢
    rw [List.any_cons, List.any_cons, h2, h4 r f]
/-- the four ways -/
theorem in_cases {as : List Addr} {h : AH} {H : Hp} {p q : P} {v w : V} {k : Bool} (rh : RelH K as h H) (rp : Rep K as H p v) (rq : Rep K as H q w) (e : inP p q h = some k) :
    (∃ a xs, w = .ref a ∧ (SqL K H a xs ∨ SqT K H a xs) ∧ flatV v = true ∧ xs.all flatV = true ∧ inV v xs = k) ∨
    (∃ d ds, Dp K H v d ∧ Dp K H w (.list ds) ∧ SeqAt.shaped d = true ∧ SeqAt.shaped (.list ds) = true ∧ (ds.any fun z => PyData.eqv z d) = k) ∨
    (∃ a o, w = .ref a ∧ DGet H a v o ∧ o.isSome = k) ∨ (∃ i j, v = .str i ∧ w = .str j ∧ (!(Builtin.Str.occurrences j i 0 j.length 1).isEmpty) = k) := by
  have data : ∀ {n : Bool}, (match dat h p, dat h q with
      | some d, some (.list ds) => if SeqAt.shaped d = true ∧ SeqAt.shaped (.list ds) = true then some (ds.any fun z => PyData.eqv z d) else none
      | _, _ => none) = some n → (∃ d ds, Dp K H v d ∧ Dp K H w (.list ds) ∧ SeqAt.shaped d = true ∧ SeqAt.shaped (.list ds) = true ∧ (ds.any fun z => PyData.eqv z d) = n) := by
    intro n y
    split at y
    · rename_i d ds z1 z2
      split at y
      · rename_i z3
        cases y
        exact ⟨d, ds, dat_ok rh rp z1, dat_ok rh rq z2, z3.1, z3.2, rfl⟩
      · cases y
    · cases y
  cases q with
  | non => cases e
  | bl b => cases e
  | int b => cases e
  | cls b => cases e
  | scr b => cases e
  | tup xs =>
    have e : (if flatP p = true ∧ xs.all flatP = true then some (xs.any fun y => PyData.eqv (flatD y) (flatD p)) else none) = some k := e
    split at e
    · rename_i z
      cases e
      unfold Rep at rq
      obtain ⟨a, vs, rfl, t, r⟩ := rq
      obtain ⟨h1, h2⟩ := flats_rep rp z.1 r z.2
      exact .inl ⟨a, vs, rfl, .inr t.sq, (flat_rep rp z.1).1, h1, h2⟩
    · cases e
  | lst xs =>
    have e : (if flatP p = true ∧ xs.all flatP = true then some (xs.any fun y => PyData.eqv (flatD y) (flatD p)) else
      (match dat h p, dat h (.lst xs) with
      | some d, some (.list ds) => if SeqAt.shaped d = true ∧ SeqAt.shaped (.list ds) = true then some (ds.any fun z => PyData.eqv z d) else none
      | _, _ => none)) = some k := e
    split at e
    · rename_i z
      cases e
      unfold Rep at rq
      obtain ⟨a, vs, rfl, _, t, r⟩ := rq
      obtain ⟨h1, h2⟩ := flats_rep rp z.1 r z.2
      exact .inl ⟨a, vs, rfl, .inl (.of t), (flat_rep rp z.1).1, h1, h2⟩
    · exact .inr (.inl (data e))
  | str y =>
    cases rq
    cases p with
    | str x =>
      cases rp
      cases e
      exact .inr (.inr (.inr ⟨_, _, rfl, rfl, rfl⟩))
    | non => cases e
    | bl _ => cases e
    | int _ => cases e
    | tup _ => cases e
    | lst _ => cases e
    | obj _ => cases e
    | cls _ => cases e
    | scr _ => cases e
  | obj n =>
    have e : (match h[n]? with
      | some (.dct kvs) => (keyOf p).map fun k => (getP kvs k).isSome
      | _ => (match dat h p, dat h (.obj n) with
        | some d, some (.list ds) => if SeqAt.shaped d = true ∧ SeqAt.shaped (.list ds) = true then some (ds.any fun z => PyData.eqv z d) else none
        | _, _ => none)) = some k := e
    split at e
    · rename_i kvs z
      obtain ⟨kk, e1, e2⟩ := Option.map_eq_some_iff.mp e
      subst e2
      have ev := keyOf_ok rp e1
      subst ev
      unfold Rep at rq
      obtain ⟨a, rfl, ea⟩ := rq
      obtain ⟨ws, h1, h2⟩ := rh.obj z ea
      obtain ⟨g1, g2⟩ := RepK.get kk (show RepK K as H kvs ws from h2)
      refine .inr (.inr (.inl ⟨a, valV ws kk, rfl, DGet.k h1, ?_⟩))
      cases y : getP kvs kk with
      | none => rw [g2 y]; rfl
      | some x =>
        obtain ⟨u, h3, _⟩ := g1 x y
        rw [h3]
        rfl
    · exact .inr (.inl (data e))
theorem cs_in : CmpS K (rInA K) inP := fun {as h H p q v w Q k} rh rp rq e z => by
  rcases in_cases rh rp rq e with ⟨a, xs, rfl, h1, h2, h3, rfl⟩ | ⟨d, ds, h1, h2, h3, h4, rfl⟩ | ⟨a, o, rfl, h1, rfl⟩ | ⟨i, j, rfl, rfl, rfl⟩
  · exact .inl (.inl (.inl ⟨a, xs, rfl, h1, h2, h3, z⟩))
  · exact .inl (.inl (.inr ⟨d, ds, h1, h2, h3, h4, z⟩))
  · exact .inl (.inr ⟨a, o, rfl, h1, z⟩)
  · exact .inr ⟨i, j, rfl, rfl, z⟩
theorem cs_notin : CmpS K (rNotinA K) notinP := fun {as h H p q v w Q k} rh rp rq e z => by
  unfold notinP at e
  obtain ⟨b, e1, e2⟩ := Option.map_eq_some_iff.mp e
  subst e2
  rcases in_cases rh rp rq e1 with ⟨a, xs, rfl, h1, h2, h3, rfl⟩ | ⟨d, ds, h1, h2, h3, h4, rfl⟩ | ⟨a, o, rfl, h1, rfl⟩ | ⟨i, j, rfl, rfl, rfl⟩
  · exact .inl (.inl (.inl ⟨a, xs, rfl, h1, h2, h3, z⟩))
  · exact .inl (.inl (.inr ⟨d, ds, h1, h2, h3, h4, z⟩))
  · exact .inl (.inr ⟨a, o, rfl, h1, z⟩)
  · exact .inr ⟨i, j, rfl, rfl, z⟩
end
end AM

/-! AM9: operators, subscripts, slices, displays, built-in calls and methods. -/
namespace AM
open PySem PySem.Spec PyProof.Rows L2
noncomputable section
variable {X : Cx} {W : WX} {K : PySem.W.Frag}

/-! ### by value -/
abbrev F1 := P → AH → Out P
abbrev F2 := P → P → AH → Out P
abbrev FL := List P → AH → Out P
def Snd1 (K : PySem.W.Frag) (r : V → Hp → VK → Prop) (f : F1) : Prop := ∀ {W : WX} {s : L2.St} {as : List Addr} {h : AH} {H : Hp} {p : P} {v : V} {Q : VK}, RelH K as h H → Rep K as H p v → Post (Rep K) K W s as H (f p h) Q → r v H Q
def Snd2 (K : PySem.W.Frag) (r : R2) (f : F2) : Prop := ∀ {W : WX} {s : L2.St} {as : List Addr} {h : AH} {H : Hp} {p q : P} {v w : V} {Q : VK}, RelH K as h H → Rep K as H p v → Rep K as H q w → Post (Rep K) K W s as H (f p q h) Q → r v w H Q
def SndL (K : PySem.W.Frag) (r : List V → Hp → VK → Prop) (f : FL) : Prop := ∀ {W : WX} {s : L2.St} {as : List Addr} {h : AH} {H : Hp} {p : List P} {v : List V} {Q : VK}, RelH K as h H → Reps K as H p v → Post (Rep K) K W s as H (f p h) Q → r v H Q
/-- two at once -/
def orF2 (f g : F2) : F2 := fun p q h => match f p q h with
  | .bad => g p q h
  | o => o
theorem Snd2.or {r r' : R2} {f g : F2} (a : Snd2 K r f) (b : Snd2 K r' g) : Snd2 K (fun x y H Q => r x y H Q ∨ r' x y H Q) (orF2 f g) := fun {W s as h H p q v w Q} rh rp rq z => by
  unfold orF2 at z
  cases e : f p q h with
  | bad => rw [e] at z; exact .inr (b rh rp rq z)
  | ok x h' => rw [e] at z; exact .inl (a rh rp rq (by rw [e]; exact z))
  | exc c x h' => rw [e] at z; exact .inl (a rh rp rq (by rw [e]; exact z))
def orFL (f g : FL) : FL := fun p h => match f p h with
  | .bad => g p h
  | o => o
theorem SndL.or {r r' : List V → Hp → VK → Prop} {f g : FL} (a : SndL K r f) (b : SndL K r' g) : SndL K (fun x H Q => r x H Q ∨ r' x H Q) (orFL f g) := fun {W s as h H p v Q} rh rp z => by
  unfold orFL at z
  cases e : f p h with
  | bad => rw [e] at z; exact .inr (b rh rp z)
  | ok x h' => rw [e] at z; exact .inl (a rh rp (by rw [e]; exact z))
  | exc c x h' => rw [e] at z; exact .inl (a rh rp (by rw [e]; exact z))
def eB (f : F2) (a b : EM) : EM := fun t h => (a t h).bind fun x h1 => (b t h1).bind fun y h2 => f x y h2
theorem two_post {ma mb : EM} {f : F2} {r : R2} {s : L2.St} {H : Hp} {Q : VK} (hs : Snd2 X.K r f) (q : TEm X.K W (eB f ma mb) s H Q) : tOp r (TEm X.K W ma) (TEm X.K W mb) s H Q := by
  obtain ⟨as, h, t, rh, rs, q⟩ := q
  refine ⟨as, h, t, rh, rs, (Post.bind (R := Rep X.K) q).mono fun v H1 z => ?_⟩
  obtain ⟨as1, h1, p, x1, r1, e1, q1⟩ := z
  refine ⟨as1, h1, t, r1, rs.mono x1, (Post.bind (R := Rep X.K) q1).mono fun v2 H2 z => ?_⟩
  obtain ⟨as2, h2, p2, x2, r2, e2, q2⟩ := z
  exact hs r2 (e1.mono x2) e2 q2
theorem w_bin {op : Operator} {r : R2} {f : F2} {a b : Expr} {ma mb : EM} {pos : Pos} (ho : OpR X (binaryOp op) r) (hs : Snd2 X.K r f) (ha : PEm X W a ma) (hb : PEm X W b mb) : PEm X W (.BinOp a op b pos) (eB f ma mb) :=
  PE_imp (pe_op ho ha hb) fun s H Q q => two_post hs q

/-! ### ints -/
def okI (i : Int) (h : AH) : Out P := .ok (.int i) h
def vInt (c : Int → Int → Bool) (f : Int → Int → Int) : F2 := fun p q h => match p, q with
  | .int i, .int j => if c i j = true then .ok (.int (f i j)) h else .bad
  | _, _ => .bad
theorem sn_int {C : Int → Int → Prop} {c : Int → Int → Bool} {f : Int → Int → Int} (hc : ∀ i j, c i j = true → C i j) : Snd2 K (rI C fun i j => .int (f i j)) (vInt c f) := fun {W s as h H p q v w Q} rh rp rq z => by
  unfold vInt at z
  split at z
  · split at z
    · rename_i hh
      cases rp
      cases rq
      exact ⟨_, _, rfl, rfl, hc _ _ hh, Post.done z (Ext.refl _ _) rh rfl⟩
    · exact z.elim
  · exact z.elim
def vInt0 (f : Int → Int → Int) : F2 := fun p q h => match p, q with
  | .int i, .int j => .ok (.int (f i j)) h
  | _, _ => .bad
theorem sn_int0 {f : Int → Int → Int} : Snd2 K (rI0 fun i j => .int (f i j)) (vInt0 f) := fun {W s as h H p q v w Q} rh rp rq z => by
  unfold vInt0 at z
  split at z
  · cases rp
    cases rq
    exact ⟨_, _, rfl, rfl, Post.done z (Ext.refl _ _) rh rfl⟩
  · exact z.elim
abbrev vSub : F2 := vInt0 fun i j => i - j
abbrev mulOk (i j : Int) : Bool := decide (i.natAbs.log2 + j.natAbs.log2 < 1000000)
abbrev vMulI : F2 := vInt mulOk fun i j => i * j
abbrev divOk (_ j : Int) : Bool := decide (0 < j) && decide (j.natAbs.log2 < 9000)
abbrev vDiv : F2 := vInt divOk fun i j => i / j
abbrev vMod : F2 := vInt (fun _ j => decide (0 < j)) fun i j => i % j
/-- n to the k: bits times k within the line -/
abbrev powOk (i j : Int) : Bool := decide (0 ≤ j) && decide ((Builtin.Int.intBits i : Int) * j ≤ 2 ^ 27)
abbrev vPow : F2 := vInt powOk fun i j => i ^ j.toNat
theorem op_powW : OpR X (binaryOp .Pow) (rI (fun i j => 0 ≤ j ∧ (Builtin.Int.intBits i : Int) * j ≤ 2 ^ 27) fun i j => .int (i ^ j.toNat)) := opI fun _ _ _ _ _ _ _ hc q => pow_int hc.1 hc.2 q
theorem sn_sub : Snd2 K (rI0 fun i j => .int (i - j)) vSub := sn_int0
theorem sn_mulI : Snd2 K (rI CMulW fun i j => .int (i * j)) vMulI := sn_int fun i j z => of_decide_eq_true z
theorem sn_div : Snd2 K (rI CDivW fun i j => .int (i / j)) vDiv := sn_int fun i j z => by
  rw [Bool.and_eq_true] at z
  exact ⟨of_decide_eq_true z.1, of_decide_eq_true z.2⟩
theorem sn_mod : Snd2 K (rI (fun _ j => 0 < j) fun i j => .int (i % j)) vMod := sn_int fun i j z => of_decide_eq_true z
theorem sn_pow : Snd2 K (rI (fun i j => 0 ≤ j ∧ (Builtin.Int.intBits i : Int) * j ≤ 2 ^ 27) fun i j => .int (i ^ j.toNat)) vPow := sn_int fun i j z => by
  rw [Bool.and_eq_true] at z
  exact ⟨of_decide_eq_true z.1, of_decide_eq_true z.2⟩
def eU (f : F1) (a : EM) : EM := fun t h => (a t h).bind fun x h1 => f x h1
theorem w_un {op : UnaryOp} {r : V → Hp → VK → Prop} {f : F1} {a : Expr} {ma : EM} {pos : Pos} (ho : UnR X (unaryOp op) r) (hs : Snd1 X.K r f) (ha : PEm X W a ma) : PEm X W (.UnaryOp op a pos) (eU f ma) := by
  refine PE_imp (pe_un ho ha) fun s H Q q => ?_
  obtain ⟨as, h, t, rh, rs, q⟩ := q
  refine ⟨as, h, t, rh, rs, (Post.bind (R := Rep X.K) q).mono fun v H1 z => ?_⟩
  obtain ⟨as1, h1, p, x1, r1, e1, q1⟩ := z
  exact hs r1 e1 q1
def vNeg : F1 := fun p h => match p with
  | .int i => .ok (.int (-i)) h
  | _ => .bad
theorem sn_neg : Snd1 K (rU fun i => .int (-i)) vNeg := fun {W s as h H p v Q} rh rp z => by
  unfold vNeg at z
  split at z
  · cases rp
    exact ⟨_, rfl, Post.done z (Ext.refl _ _) rh rfl⟩
  · exact z.elim

/-! ### new tuples and lists -/
theorem tupAt_new {as : List Addr} {h : AH} {H : Hp} {p : Addr} {vs : List V} (rh : RelH K as h H) (e : H p = none) : TupAt K as (upd H p (.tup vs)) p vs := .inl ⟨rh.new e, .inl upd_same⟩
theorem rep_tup {as : List Addr} {h : AH} {H : Hp} {p : Addr} {xs : List P} {vs : List V} (rh : RelH K as h H) (e : H p = none) (r : Reps K as H xs vs) : Rep K as (upd H p (.tup vs)) (.tup xs) (.ref p) := by
  unfold Rep
  exact ⟨p, vs, rfl, tupAt_new rh e, r.mono (Ext.laid rh e)⟩
theorem rep_lst {as : List Addr} {h : AH} {H : Hp} {p : Addr} {xs : List P} {vs : List V} (rh : RelH K as h H) (e : H p = none) (r : Reps K as H xs vs) : Rep K as (upd H p (.lst vs)) (.lst xs) (.ref p) := by
  unfold Rep
  exact ⟨p, vs, rfl, rh.new e, upd_same, r.mono (Ext.laid rh e)⟩
/-- a new tuple's end -/
theorem post_tup {as : List Addr} {h : AH} {H : Hp} {s : L2.St} {xs : List P} {vs : List V} {Q : VK} (rh : RelH K as h H) (r : Reps K as H xs vs) (z : Post (Rep K) K W s as H (.ok (.tup xs) h) Q) (p : Addr) (e : H p = none) : Q (.ref p) (upd H p (.tup vs)) :=
  Post.done z (Ext.laid rh e) (rh.laid e) (rep_tup rh e r)
theorem post_lst {as : List Addr} {h : AH} {H : Hp} {s : L2.St} {xs : List P} {vs : List V} {Q : VK} (rh : RelH K as h H) (r : Reps K as H xs vs) (z : Post (Rep K) K W s as H (.ok (.lst xs) h) Q) (p : Addr) (e : H p = none) : Q (.ref p) (upd H p (.lst vs)) :=
  Post.done z (Ext.laid rh e) (rh.laid e) (rep_lst rh e r)
/-- a new list that may change -/
def newL (xs : List P) (h : AH) : Out P := .ok (.obj h.length) (h ++ [.lst xs])
theorem post_new {as : List Addr} {h : AH} {H : Hp} {s : L2.St} {xs : List P} {vs : List V} {Q : VK} (rh : RelH K as h H) (r : Reps K as H xs vs) (z : Post (Rep K) K W s as H (newL xs h) Q) (p : Addr) (e : H p = none) : Q (.ref p) (upd H p (.lst vs)) := by
  have x := Ext.push (o := .lst vs) rh e
  refine Post.done z x (rh.push e ⟨vs, upd_same, r.mono x⟩) ?_
  unfold Rep
  refine ⟨p, rfl, ?_⟩
  rw [← rh.len]
  simp
/-- how a new list is held: as it is, or as an object -/
def mkL (b : Bool) (xs : List P) (h : AH) : Out P := if b = true then newL xs h else .ok (.lst xs) h
theorem post_mk {b : Bool} {as : List Addr} {h : AH} {H : Hp} {s : L2.St} {xs : List P} {vs : List V} {Q : VK} (rh : RelH K as h H) (r : Reps K as H xs vs) (z : Post (Rep K) K W s as H (mkL b xs h) Q) (p : Addr) (e : H p = none) : Q (.ref p) (upd H p (.lst vs)) := by
  cases b with
  | true => exact post_new rh r z p e
  | false => exact post_lst rh r z p e
def small (n : Nat) : Bool := decide (n ≤ 16777216)
theorem small_ok {n : Nat} (h : small n = true) : n ≤ sizeLine := by
  rw [sizeLine_eq]
  exact of_decide_eq_true h
def eTup (a : LM) : EM := fun t h => (a t h).bind fun xs h1 => if small xs.length = true then .ok (.tup xs) h1 else .bad
theorem w_tup {es : List Expr} {a : LM} {x1} {pos : Pos} (ha : PAm X W es a) : PEm X W (.Tuple es x1 pos) (eTup a) := by
  refine PE_imp (pe_tup ha) fun s H Q q => ?_
  obtain ⟨as, h, t, rh, rs, q⟩ := q
  refine ⟨as, h, t, rh, rs, (Post.bind (R := Reps X.K) q).mono fun v H1 z => ?_⟩
  obtain ⟨as1, h1, p, x1, r1, e1, q1⟩ := z
  split at q1
  · rename_i l
    exact ⟨by rw [← e1.len]; exact small_ok l, post_tup r1 e1 q1⟩
  · exact q1.elim
def eLst (b : Bool) (a : LM) : EM := fun t h => (a t h).bind fun xs h1 => if small xs.length = true then mkL b xs h1 else .bad
theorem w_lst (b : Bool) {es : List Expr} {a : LM} {pos : Pos} (ha : PAm X W es a) : PEm X W (.List es pos) (eLst b a) := by
  refine PE_imp (pe_lst ha) fun s H Q q => ?_
  obtain ⟨as, h, t, rh, rs, q⟩ := q
  refine ⟨as, h, t, rh, rs, (Post.bind (R := Reps X.K) q).mono fun v H1 z => ?_⟩
  obtain ⟨as1, h1, p, x1, r1, e1, q1⟩ := z
  split at q1
  · rename_i l
    exact ⟨by rw [← e1.len]; exact small_ok l, post_mk r1 e1 q1⟩
  · exact q1.elim
def newD (kvs : List (Key × P)) (h : AH) : Out P := .ok (.obj h.length) (h ++ [.dct kvs])
theorem post_newD {as : List Addr} {h : AH} {H : Hp} {s : L2.St} {xs : List (Key × P)} {vs : List (Key × V)} {Q : VK} (rh : RelH K as h H) (r : RepK K as H xs vs) (z : Post (Rep K) K W s as H (newD xs h) Q) (p : Addr) (e : H p = none) : Q (.ref p) (upd H p (.dK vs)) := by
  have x := Ext.push (o := .dK vs) rh e
  have r2 := r.mono x
  refine Post.done z x (rh.push e ⟨vs, upd_same, r2.1, r2.2⟩) ?_
  unfold Rep
  refine ⟨p, rfl, ?_⟩
  rw [← rh.len]
  simp
def eD0 : EM := fun _ h => newD [] h
theorem w_dict0 {pos : Pos} : PEm X W (.Dict [] [] pos) eD0 := PE_imp pe_dnewK fun s H Q q => by
  obtain ⟨as, h, t, rh, rs, q⟩ := q
  exact post_newD rh repK_nil q
/-- *e among arguments -/
def lS (m : EM) (r : LM) : LM := fun t h => (m t h).bind fun p h1 => match p with
  | .tup xs => (r t h1).bind fun ys h2 => .ok (xs ++ ys) h2
  | .lst xs => (r t h1).bind fun ys h2 => .ok (xs ++ ys) h2
  | .obj n => (match h1[n]? with
    | some (.lst xs) => (r t h1).bind fun ys h2 => .ok (xs ++ ys) h2
    | _ => .bad)
  | _ => .bad
theorem wa_star {e : Expr} {es : List Expr} {m : EM} {r : LM} {p : Pos} (he : PEm X W e m) (hr : PAm X W es r) (hs : starEach (.Starred e p :: es) X.env = (true, eval e X.env) :: starEach es X.env := by rfl) : PAm X W (.Starred e p :: es) (lS m r) := by
  refine PA_imp (StX.pa_star he hr hs) fun s H Q q => ?_
  obtain ⟨as, h, t, rh, rs, q⟩ := q
  refine ⟨as, h, t, rh, rs, (Post.bind (R := Rep X.K) q).mono fun v H1 z => ?_⟩
  obtain ⟨as1, h1, x, x1, r1, e1, q1⟩ := z
  have rest : ∀ {xs : List P} {vs : List V}, Reps X.K as1 H1 xs vs → Post (Reps X.K) X.K W s as1 H1 ((r t h1).bind fun ys h2 => .ok (xs ++ ys) h2) Q → TAm X.K W r s H1 fun ys H2 => Q (vs ++ ys) H2 := by
    intro xs vs rv q2
    refine ⟨as1, h1, t, r1, rs.mono x1, (Post.bind (R := Reps X.K) q2).mono fun ws H2 z => ?_⟩
    obtain ⟨as2, h2, ys, x2, r2, e2, q3⟩ := z
    exact Post.done q3 (Ext.refl _ _) r2 ((rv.mono x2).app e2)
  split at q1
  · unfold Rep at e1
    obtain ⟨a, vs, rfl, ta, rv⟩ := e1
    exact ⟨a, vs, rfl, .inl ta.sq, rest rv q1⟩
  · unfold Rep at e1
    obtain ⟨a, vs, rfl, _, ta, rv⟩ := e1
    exact ⟨a, vs, rfl, .inr (.of ta), rest rv q1⟩
  · unfold Rep at e1
    obtain ⟨a, rfl, ea⟩ := e1
    split at q1
    · rename_i xs z
      obtain ⟨vs, h3, h4⟩ := r1.obj z ea
      exact ⟨a, vs, rfl, .inr (.of h3), rest h4 q1⟩
    · exact q1.elim
  · exact q1.elim

/-! ### + and * -/
def vAddS : F2 := fun p q h => match p, q with
  | .str x, .str y => if small (x.length + y.length) = true then .ok (.str (x ++ y)) h else .bad
  | _, _ => .bad
def rAddS : R2 := fun x y H Q => ∃ i j, x = .str i ∧ y = .str j ∧ i.length + j.length ≤ sizeLine ∧ Q (.str (i ++ j)) H
theorem sn_addS : Snd2 K rAddS vAddS := fun {W s as h H p q v w Q} rh rp rq z => by
  unfold vAddS at z
  split at z
  · split at z
    · rename_i l
      cases rp
      cases rq
      exact ⟨_, _, rfl, rfl, small_ok l, Post.done z (Ext.refl _ _) rh rfl⟩
    · exact z.elim
  · exact z.elim
def vAddT : F2 := fun p q h => match p, q with
  | .tup xs, .tup ys => if small (xs.length + ys.length) = true then .ok (.tup (xs ++ ys)) h else .bad
  | _, _ => .bad
theorem sn_addT : Snd2 K (rCatA K) vAddT := fun {W s as h H p q v w Q} rh rp rq z => by
  unfold vAddT at z
  split at z
  · rename_i xs ys
    split at z
    · rename_i l
      have rp0 := rp
      have rq0 := rq
      unfold Rep at rp rq
      obtain ⟨a, vs, rfl, ta, ra⟩ := rp
      obtain ⟨b, ws, rfl, tb, rb⟩ := rq
      refine ⟨a, b, vs, ws, rfl, rfl, ta.sq, tb.sq, by rw [← ra.len, ← rb.len]; exact small_ok l, fun e => ?_, fun _ e => ?_, fun _ _ p e => post_tup rh (ra.app rb) z p e⟩
      · have ex : xs = [] := by
          have := ra.len
          rw [e] at this
          exact List.eq_nil_of_length_eq_zero this
        subst ex
        exact Post.done z (Ext.refl _ _) rh (by simpa using rq0)
      · have ex : ys = [] := by
          have := rb.len
          rw [e] at this
          exact List.eq_nil_of_length_eq_zero this
        subst ex
        exact Post.done z (Ext.refl _ _) rh (by simpa using rp0)
    · exact z.elim
  · exact z.elim
/-- what a list holds, of either kind -/
def lstOf (h : AH) : P → Option (List P)
  | .lst xs => some xs
  | .obj n => match h[n]? with
    | some (.lst xs) => some xs
    | _ => none
  | _ => none
theorem lstOf_ok {as : List Addr} {h : AH} {H : Hp} {p : P} {v : V} {xs : List P} (rh : RelH K as h H) (r : Rep K as H p v) (e : lstOf h p = some xs) : ∃ a vs, v = .ref a ∧ H a = some (.lst vs) ∧ Reps K as H xs vs := by
  cases p with
  | lst ys =>
    cases e
    unfold Rep at r
    obtain ⟨a, vs, rfl, _, h1, h2⟩ := r
    exact ⟨a, vs, rfl, h1, h2⟩
  | obj n =>
    have e : (match h[n]? with
      | some (.lst xs) => some xs
      | _ => none) = some xs := e
    unfold Rep at r
    obtain ⟨a, rfl, ea⟩ := r
    split at e
    · rename_i ys z
      cases e
      obtain ⟨vs, h1, h2⟩ := rh.obj z ea
      exact ⟨a, vs, rfl, h1, h2⟩
    · cases e
  | non => cases e
  | bl _ => cases e
  | int _ => cases e
  | str _ => cases e
  | tup _ => cases e
  | cls _ => cases e
  | scr _ => cases e
def vAddL (b : Bool) : F2 := fun p q h => match lstOf h p, lstOf h q with
  | some xs, some ys => if small (xs.length + ys.length) = true then mkL b (xs ++ ys) h else .bad
  | _, _ => .bad
theorem sn_addL {b : Bool} : Snd2 K rCat (vAddL b) := fun {W s as h H p q v w Q} rh rp rq z => by
  unfold vAddL at z
  split at z
  · rename_i xs ys z1 z2
    split at z
    · rename_i l
      obtain ⟨a, vs, rfl, h1, h2⟩ := lstOf_ok rh rp z1
      obtain ⟨c, ws, rfl, h3, h4⟩ := lstOf_ok rh rq z2
      exact ⟨a, c, vs, ws, rfl, rfl, h1, h3, by rw [← h2.len, ← h4.len]; exact small_ok l, fun p e => post_mk rh (h2.app h4) z p e⟩
    · exact z.elim
  · exact z.elim
def rAddA (K : PySem.W.Frag) : R2 := fun x y H Q => ((rI0 (fun i j => .int (i + j)) x y H Q ∨ rAddS x y H Q) ∨ rCatA K x y H Q) ∨ rCat x y H Q
theorem or_add : OpR X (binaryOp .Add) (rAddA X.K) := ((op_add.or op_add_str).or op_catA).or op_cat
/-- b: whether a new list may change -/
def vAdd (b : Bool) : F2 := orF2 (orF2 (orF2 (vInt0 fun i j => i + j) vAddS) vAddT) (vAddL b)
theorem sn_add {b : Bool} : Snd2 K (rAddA K) (vAdd b) := Snd2.or (Snd2.or (Snd2.or sn_int0 sn_addS) sn_addT) sn_addL
def vMulT : F2 := fun p q h => match p, q with
  | .tup xs, .int k => if xs.isEmpty = false ∧ 2 ≤ k ∧ k ≤ 1000 ∧ xs.length ≤ 1000 then .ok (.tup (List.replicate k.toNat xs).flatten) h else .bad
  | _, _ => .bad
theorem sn_mulT : Snd2 K (rRepT K) vMulT := fun {W s as h H p q v w Q} rh rp rq z => by
  unfold vMulT at z
  split at z
  · rename_i xs k
    split at z
    · rename_i l
      unfold Rep at rp
      obtain ⟨a, vs, rfl, ta, ra⟩ := rp
      cases rq
      refine ⟨a, k, vs, rfl, rfl, ta.sq, ?_, l.2.1, l.2.2.1, by rw [← ra.len]; exact l.2.2.2, fun p e => post_tup rh (ra.rep _) z p e⟩
      intro e
      have := ra.len
      rw [e] at this
      have z := List.eq_nil_of_length_eq_zero this
      rw [z] at l
      exact absurd l.1 (by simp)
    · exact z.elim
  · exact z.elim
end
end AM

/-! AM10: subscripts, slices, built-in calls and methods. -/
namespace AM
open PySem PySem.Spec PyProof.Rows L2
noncomputable section
variable {X : Cx} {W : WX} {K : PySem.W.Frag}

/-! ### subscripts -/
theorem PE_two {e : Expr} {t t1 t2 : TE} (h1 : PE X e t1) (h2 : PE X e t2) (i : ∀ s H Q, t s H Q → t1 s H Q ∨ t2 s H Q) : PE X e t := ⟨fun pins s σ H Q I q => by
  rcases i _ _ _ q with q | q
  · exact h1.run pins s σ H Q I q
  · exact h2.run pins s σ H Q I q⟩
theorem Reps.at {as : List Addr} {H : Hp} {xs : List P} {vs : List V} {i : Int} {p : P} (r : Reps K as H xs vs) (e : atI xs i = some p) : ∃ v, atI vs i = some v ∧ Rep K as H p v := by
  unfold atI at e ⊢
  rw [← r.len]
  cases z : ixN xs.length i with
  | none => rw [z] at e; cases e
  | some j =>
    rw [z] at e
    exact r.get e
def isDct (h : AH) : P → Bool
  | .obj n => match h[n]? with
    | some (.dct _) => true
    | _ => false
  | _ => false
/-- items of lists, tuples, texts -/
def itemS : F2 := fun x y h => match y with
  | .int i => (match x with
    | .tup xs => match atI xs i with
      | some p => .ok p h
      | none => .bad
    | .scr xs => match atI xs i with
      | some p => .ok p h
      | none => .bad
    | .str z => if small z.length = true then (match atI z.cps.toList i with
      | some c => .ok (.str ⟨#[c]⟩) h
      | none => .bad) else .bad
    | x => match lstOf h x with
      | some xs => (match atI xs i with
        | some p => .ok p h
        | none => .bad)
      | none => .bad)
  | _ => .bad
def itemD : F2 := fun x y h => match x with
  | .obj n => (match h[n]? with
    | some (.dct kvs) => (match keyOf y with
      | some k => (match getP kvs k with
        | some p => .ok p h
        | none => .bad)
      | none => .bad)
    | _ => .bad)
  | _ => .bad
def itemP : F2 := fun x y h => if isDct h x = true then itemD x y h else itemS x y h
theorem sn_itemS : Snd2 K (rIx K) itemS := fun {W s as h H p q v w Q} rh rp rq z => by
  have fin : ∀ {p : P} {u : V}, Rep K as H p u → Post (Rep K) K W s as H (.ok p h) Q → Q u H := fun r z => Post.done z (Ext.refl _ _) rh r
  cases q with
  | int i =>
    cases rq
    have lists : ∀ {xs : List P}, lstOf h p = some xs → Post (Rep K) K W s as H (match atI xs i with
        | some p => .ok p h
        | none => .bad) Q → rIx K v (.int i) H Q := by
      intro xs e z
      obtain ⟨a, vs, rfl, h1, h2⟩ := lstOf_ok rh rp e
      split at z
      · rename_i x hx
        obtain ⟨u, h3, h4⟩ := h2.at hx
        exact .inl ⟨a, vs, i, u, rfl, rfl, .of h1, h3, fin h4 z⟩
      · exact z.elim
    cases p with
    | tup xs =>
      unfold Rep at rp
      obtain ⟨a, vs, rfl, h1, h2⟩ := rp
      have z : Post (Rep K) K W s as H (match atI xs i with
        | some p => .ok p h
        | none => .bad) Q := z
      split at z
      · rename_i x hx
        obtain ⟨u, h3, h4⟩ := h2.at hx
        exact .inr (.inl ⟨a, vs, i, u, rfl, rfl, h1.sq, h3, fin h4 z⟩)
      · exact z.elim
    | scr xs =>
      unfold Rep at rp
      obtain ⟨a, vs, o, rfl, _, h1, h2⟩ := rp
      have z : Post (Rep K) K W s as H (match atI xs i with
        | some p => .ok p h
        | none => .bad) Q := z
      split at z
      · rename_i x hx
        obtain ⟨u, h3, h4⟩ := h2.at hx
        exact .inl ⟨a, vs, i, u, rfl, rfl, .inl (.inr ⟨o, h1⟩), h3, fin h4 z⟩
      · exact z.elim
    | str y =>
      cases rp
      have z : Post (Rep K) K W s as H (if small y.length = true then (match atI y.cps.toList i with
      | some c => .ok (.str ⟨#[c]⟩) h
      | none => .bad) else .bad) Q := z
      split at z
      · rename_i l
        split at z
        · rename_i c hc
          exact .inr (.inr ⟨y, i, c, rfl, rfl, small_ok l, hc, fin (p := .str ⟨#[c]⟩) (by unfold Rep; rfl) z⟩)
        · exact z.elim
      · exact z.elim
    | lst xs => exact lists rfl z
    | obj n =>
      have z : Post (Rep K) K W s as H (match lstOf h (.obj n) with
        | some xs => (match atI xs i with
          | some p => .ok p h
          | none => .bad)
        | none => .bad) Q := z
      split at z
      · rename_i xs e
        exact lists e z
      · exact z.elim
    | non => exact z.elim
    | bl _ => exact z.elim
    | int _ => exact z.elim
    | cls _ => exact z.elim
  | non => exact z.elim
  | bl _ => exact z.elim
  | str _ => exact z.elim
  | tup _ => exact z.elim
  | lst _ => exact z.elim
  | obj _ => exact z.elim
  | cls _ => exact z.elim
  | scr _ => exact z.elim
theorem w_ix {k : Nat} {a b : Expr} {ma mb : EM} {pos : Pos} (hk : Here X k) (ha : PEm X W a ma) (hb : PEm X W b mb) (hs : PlainIx b := by exact fun _ _ => rfl) : PEm X W (.Subscript a b pos) (eB itemP ma mb) := by
  refine PE_two (pe_ix ix_seq ha hb hs) (pe_dget (hu_of hk.room) ha hb hs) fun s H Q q => ?_
  obtain ⟨as, h, t, rh, rs, q⟩ := q
  by_cases hd : ∃ x h1 y h2, ma t h = .ok x h1 ∧ mb t h1 = .ok y h2 ∧ isDct h2 x = true
  · obtain ⟨x, h1, y, h2, e1, e2, e3⟩ := hd
    refine .inr ⟨as, h, t, rh, rs, ?_⟩
    have q1 : Post (Rep X.K) X.K W s as H (itemD x y h2) Q := by
      have z : eB itemP ma mb t h = itemD x y h2 := by simp [eB, Out.bind, itemP, e1, e2, e3]
      rw [← z]
      exact q
    rw [e1]
    intro as1 H1 v x1 r1 p1
    refine ⟨as1, h1, t, r1, rs.mono x1, ?_⟩
    rw [e2]
    intro as2 H2 w x2 r2 p2
    have q2 := Post.ext q1 (x1.trans x2)
    unfold itemD at q2
    split at q2
    · rename_i n
      have p1' := p1.mono x2
      unfold Rep at p1'
      obtain ⟨ad, rfl, ea⟩ := p1'
      split at q2
      · rename_i kvs z
        obtain ⟨ws, g1, g2⟩ := r2.obj z ea
        split at q2
        · rename_i kk hkk
          have ew := keyOf_ok p2 hkk
          subst ew
          split at q2
          · rename_i p hp
            obtain ⟨u, g3, g4⟩ := (RepK.get kk (show RepK X.K as2 H2 kvs ws from g2)).1 p hp
            refine ⟨ad, u, rfl, ?_, Post.done q2 (Ext.refl _ _) r2 g4⟩
            rw [← g3]
            exact DGet.k g1
          · exact q2.elim
        · exact q2.elim
      · exact q2.elim
    · exact q2.elim
  · refine .inl (two_post (W := W) (f := itemS) sn_itemS ⟨as, h, t, rh, rs, ?_⟩)
    have z : eB itemS ma mb t h = eB itemP ma mb t h := by
      unfold eB
      cases e1 : ma t h with
      | bad => rfl
      | exc c p h1 => rfl
      | ok x h1 =>
        show ((mb t h1).bind fun y h2 => itemS x y h2) = ((mb t h1).bind fun y h2 => itemP x y h2)
        cases e2 : mb t h1 with
        | bad => rfl
        | exc c p h1 => rfl
        | ok y h2 =>
          show itemS x y h2 = itemP x y h2
          unfold itemP
          rw [if_neg]
          intro e3
          exact hd ⟨x, h1, y, h2, e1, e2, e3⟩
    rw [z]
    exact q

/-! ### slices -/
abbrev OM := AM.Loc → AH → Out (Option Int)
abbrev POm (X : Cx) (W : WX) (e : Option Expr) (m : OM) : Prop := PO X e (TG_ (fun _ _ a b => a = b) X.K W m)
theorem PO_imp {e : Option Expr} {t t' : TO} (h : PO X e t) (i : ∀ s H Q, t' s H Q → t s H Q) : PO X e t' := ⟨fun pins s σ H Q I q => h.run pins s σ H Q I (i _ _ _ q)⟩
def oN : OM := fun _ h => .ok none h
theorem wo_none : POm X W none oN := PO_imp po_none fun s H Q q => by
  obtain ⟨as, h, t, rh, rs, q⟩ := q
  exact Post.done (R := fun _ _ a b => a = b) q (Ext.refl _ _) rh rfl
def oS (m : EM) : OM := fun t h => (m t h).bind fun p h1 => match p with
  | .int i => .ok (some i) h1
  | _ => .bad
theorem wo_some {e : Expr} {m : EM} (he : PEm X W e m) : POm X W (some e) (oS m) := by
  refine PO_imp (po_some he) fun s H Q q => ?_
  obtain ⟨as, h, t, rh, rs, q⟩ := q
  refine ⟨as, h, t, rh, rs, (Post.bind (R := Rep X.K) q).mono fun v H1 z => ?_⟩
  obtain ⟨as1, h1, p, x1, r1, e1, q1⟩ := z
  split at q1
  · cases e1
    exact ⟨_, rfl, Post.done (R := fun _ _ a b => a = b) q1 (Ext.refl _ _) r1 rfl⟩
  · exact q1.elim
def cutP (xs : List P) (lo hi : Option Int) : List P := (xs.drop (HT.sIx xs.length 0 lo)).take (HT.sIx xs.length xs.length hi - HT.sIx xs.length 0 lo)
theorem Reps.cut {as : List Addr} {H : Hp} {xs : List P} {vs : List V} (r : Reps K as H xs vs) (lo hi : Option Int) : Reps K as H (cutP xs lo hi) (cutV vs lo hi) := by
  unfold cutP cutV
  rw [← r.len]
  exact (r.drop _).take _
def sliceP (b : Bool) (x : P) (lo hi : Option Int) (h : AH) : Out P := match x with
  | .tup xs => .ok (.tup (cutP xs lo hi)) h
  | .str z => if small z.length = true then .ok (.str (cutS z lo hi)) h else .bad
  | .scr xs => mkL b (cutP xs lo hi) h
  | x => match lstOf h x with
    | some xs => mkL b (cutP xs lo hi) h
    | none => .bad
def rSlAll (K : PySem.W.Frag) : V → Option Int → Option Int → Hp → VK → Prop := fun x lo hi H Q => (rSlA K x lo hi H Q ∨ rSlS x lo hi H Q) ∨ rSlL K x lo hi H Q
theorem sl_all : SlR X (rSlAll X.K) := (sl_tupA.or sl_str).or sl_list
theorem slice_ok {b : Bool} {s : L2.St} {as : List Addr} {h : AH} {H : Hp} {p : P} {v : V} {lo hi : Option Int} {Q : VK} (rh : RelH K as h H) (rp : Rep K as H p v) (z : Post (Rep K) K W s as H (sliceP b p lo hi h) Q) : rSlAll K v lo hi H Q := by
  have lists : ∀ {xs : List P}, lstOf h p = some xs → Post (Rep K) K W s as H (mkL b (cutP xs lo hi) h) Q → rSlAll K v lo hi H Q := by
    intro xs e z
    obtain ⟨a, vs, rfl, h1, h2⟩ := lstOf_ok rh rp e
    exact .inr ⟨a, vs, rfl, .of h1, fun p e => post_mk rh (h2.cut lo hi) z p e⟩
  cases p with
  | tup xs =>
    have rp0 := rp
    unfold Rep at rp
    obtain ⟨a, vs, rfl, h1, h2⟩ := rp
    refine .inl (.inl ⟨a, vs, h1.sq |> fun _ => rfl, h1.sq, fun e => ?_, fun _ p e => post_tup rh (h2.cut lo hi) z p e⟩)
    have ez : cutP xs lo hi = xs := by
      unfold cutP
      rw [← h2.len] at e
      rw [e.1, e.2]
      simp
    have z : Post (Rep K) K W s as H (.ok (.tup (cutP xs lo hi)) h) Q := z
    rw [ez] at z
    exact Post.done z (Ext.refl _ _) rh rp0
  | str y =>
    cases rp
    have z : Post (Rep K) K W s as H (if small y.length = true then .ok (.str (cutS y lo hi)) h else .bad) Q := z
    split at z
    · rename_i l
      exact .inl (.inr ⟨y, rfl, small_ok l, Post.done z (Ext.refl _ _) rh rfl⟩)
    · exact z.elim
  | scr xs =>
    unfold Rep at rp
    obtain ⟨a, vs, o, rfl, _, h1, h2⟩ := rp
    exact .inr ⟨a, vs, rfl, .inl (.inr ⟨o, h1⟩), fun p e => post_mk rh (h2.cut lo hi) z p e⟩
  | lst xs => exact lists rfl z
  | obj n =>
    have z : Post (Rep K) K W s as H (match lstOf h (.obj n) with
      | some xs => mkL b (cutP xs lo hi) h
      | none => .bad) Q := z
    split at z
    · rename_i xs e
      exact lists e z
    · exact z.elim
  | non => exact z.elim
  | bl _ => exact z.elim
  | int _ => exact z.elim
  | cls _ => exact z.elim
def eSlice (b : Bool) (m : EM) (lo hi : OM) : EM := fun t h => (m t h).bind fun x h1 => (lo t h1).bind fun l h2 => (hi t h2).bind fun u h3 => sliceP b x l u h3
theorem w_slice (b : Bool) {e : Expr} {lo hi : Option Expr} {m : EM} {ml mh : OM} {pos p2 : Pos} (he : PEm X W e m) (hl : POm X W lo ml) (hh : POm X W hi mh) : PEm X W (.Subscript e (.Slice lo hi none p2) pos) (eSlice b m ml mh) := by
  refine PE_imp (pe_slice sl_all he hl hh) fun s H Q q => ?_
  obtain ⟨as, h, t, rh, rs, q⟩ := q
  refine ⟨as, h, t, rh, rs, (Post.bind (R := Rep X.K) q).mono fun v H1 z => ?_⟩
  obtain ⟨as1, h1, p, x1, r1, e1, q1⟩ := z
  refine ⟨as1, h1, t, r1, rs.mono x1, (Post.bind (R := fun _ _ a b => a = b) q1).mono fun l H2 z => ?_⟩
  obtain ⟨as2, h2, l', x2, r2, e2, q2⟩ := z
  subst e2
  refine ⟨as2, h2, t, r2, rs.mono (x1.trans x2), (Post.bind (R := fun _ _ a b => a = b) q2).mono fun u H3 z => ?_⟩
  obtain ⟨as3, h3, u', x3, r3, e3, q3⟩ := z
  subst e3
  exact slice_ok r3 (e1.mono (x2.trans x3)) q3

/-! ### built-in calls -/
def eCB (f : FL) (a : LM) : EM := fun t h => (a t h).bind fun xs h1 => f xs h1
theorem callB_post {a : LM} {f : FL} {r : List V → Hp → VK → Prop} {s : L2.St} {H : Hp} {Q : VK} (hs : SndL X.K r f) (q : TEm X.K W (eCB f a) s H Q) : tCB r (TAm X.K W a) s H Q := by
  obtain ⟨as, h, t, rh, rs, q⟩ := q
  refine ⟨as, h, t, rh, rs, (Post.bind (R := Reps X.K) q).mono fun v H1 z => ?_⟩
  obtain ⟨as1, h1, p, x1, r1, e1, q1⟩ := z
  exact hs r1 e1 q1
theorem w_callB {id : String} {x : Str} {r : List V → Hp → VK → Prop} {f : FL} {e : Expr} {es : List Expr} {a : LM} {p pos : Pos} (hc : CallR X (.builtin id) r) (hs : SndL X.K r f) (hm : X.mg x = none) (hv : bootBuiltins x = some (.builtin id)) (ha : PAm X W (e :: es) a) (hg : Gl X x := by rfl)
    (hn : x ≠ "__name__" := by decide) (hd : (x == ("__debug__" : Str)) = false := by decide) (he : starEach (e :: es) X.env = (false, eval e X.env) :: starEach es X.env := by rfl) (hpl : (backTo pos (starEach es X.env)).any (·.1) = false := by rfl) :
    PEm X W (.Call (.Name x p) (e :: es) [] pos) (eCB f a) := PE_imp (pe_callB hc hg hm hv ha hn hd he hpl) fun s H Q q => callB_post hs q
theorem w_callTy {T : String} {x : Str} {r : List V → Hp → VK → Prop} {f : FL} {e : Expr} {es : List Expr} {a : LM} {p pos : Pos} (hc : CallR X (.type T) r) (hs : SndL X.K r f) (hm : X.mg x = none) (hv : bootBuiltins x = some (.type T)) (ha : PAm X W (e :: es) a) (hg : Gl X x := by rfl)
    (hn : x ≠ "__name__" := by decide) (hd : (x == ("__debug__" : Str)) = false := by decide) (he : starEach (e :: es) X.env = (false, eval e X.env) :: starEach es X.env := by rfl) (hpl : (backTo pos (starEach es X.env)).any (·.1) = false := by rfl) :
    PEm X W (.Call (.Name x p) (e :: es) [] pos) (eCB f a) := PE_imp (pe_callTy hc hg hm hv ha hn hd he hpl) fun s H Q q => callB_post hs q
def fAbs : FL := fun xs h => match xs with
  | [.int i] => .ok (.int (if i < 0 then -i else i)) h
  | _ => .bad
theorem reps1 {as : List Addr} {H : Hp} {p : P} {vs : List V} (r : Reps K as H [p] vs) : ∃ v, vs = [v] ∧ Rep K as H p v := by
  obtain ⟨v, r', rfl, h1, h2⟩ := reps_inv r
  rw [reps_inv0 h2]
  exact ⟨v, rfl, h1⟩
theorem reps2 {as : List Addr} {H : Hp} {p q : P} {vs : List V} (r : Reps K as H [p, q] vs) : ∃ v w, vs = [v, w] ∧ Rep K as H p v ∧ Rep K as H q w := by
  obtain ⟨v, r', rfl, h1, h2⟩ := reps_inv r
  obtain ⟨w, rfl, h3⟩ := reps1 h2
  exact ⟨v, w, rfl, h1, h3⟩
theorem sn_abs : SndL K (fun xs H Q => ∃ i, xs = [.int i] ∧ Q (.int (if i < 0 then -i else i)) H) fAbs := fun {W s as h H p v Q} rh rp z => by
  unfold fAbs at z
  split at z
  · obtain ⟨v, rfl, r⟩ := reps1 rp
    cases r
    exact ⟨_, rfl, Post.done z (Ext.refl _ _) rh rfl⟩
  · exact z.elim
def fMax : FL := fun xs h => match xs with
  | [.int i, .int j] => .ok (.int (if j > i then j else i)) h
  | _ => .bad
def fMin : FL := fun xs h => match xs with
  | [.int i, .int j] => .ok (.int (if j < i then j else i)) h
  | _ => .bad
theorem sn_max : SndL K (fun xs H Q => ∃ i j, xs = [.int i, .int j] ∧ Q (.int (if j > i then j else i)) H) fMax := fun {W s as h H p v Q} rh rp z => by
  unfold fMax at z
  split at z
  · obtain ⟨v, w, rfl, r1, r2⟩ := reps2 rp
    cases r1
    cases r2
    exact ⟨_, _, rfl, Post.done z (Ext.refl _ _) rh rfl⟩
  · exact z.elim
theorem sn_min : SndL K (fun xs H Q => ∃ i j, xs = [.int i, .int j] ∧ Q (.int (if j < i then j else i)) H) fMin := fun {W s as h H p v Q} rh rp z => by
  unfold fMin at z
  split at z
  · obtain ⟨v, w, rfl, r1, r2⟩ := reps2 rp
    cases r1
    cases r2
    exact ⟨_, _, rfl, Post.done z (Ext.refl _ _) rh rfl⟩
  · exact z.elim
/-- a sequence that may be read: list, tuple, script -/
def seqOf (h : AH) : P → Option (List P)
  | .tup xs => some xs
  | .scr xs => some xs
  | p => lstOf h p
theorem seqOf_ok {as : List Addr} {h : AH} {H : Hp} {p : P} {v : V} {xs : List P} (rh : RelH K as h H) (r : Rep K as H p v) (e : seqOf h p = some xs) : ∃ a vs, v = .ref a ∧ (SqL K H a vs ∨ SqT K H a vs) ∧ Reps K as H xs vs := by
  cases p with
  | tup ys =>
    cases e
    unfold Rep at r
    obtain ⟨a, vs, rfl, h1, h2⟩ := r
    exact ⟨a, vs, rfl, .inr h1.sq, h2⟩
  | scr ys =>
    cases e
    unfold Rep at r
    obtain ⟨a, vs, o, rfl, _, h1, h2⟩ := r
    exact ⟨a, vs, rfl, .inl (.inl (.inr ⟨o, h1⟩)), h2⟩
  | lst ys => obtain ⟨a, vs, h0, h1, h2⟩ := lstOf_ok rh r e; exact ⟨a, vs, h0, .inl (.of h1), h2⟩
  | obj n => obtain ⟨a, vs, h0, h1, h2⟩ := lstOf_ok rh r e; exact ⟨a, vs, h0, .inl (.of h1), h2⟩
  | non => cases e
  | bl _ => cases e
  | int _ => cases e
  | str _ => cases e
  | cls _ => cases e
/-- tuple(..) of a sequence, of a dict's keys -/
def dctOf (h : AH) : P → Option (List (Key × P))
  | .obj n => match h[n]? with
    | some (.dct kvs) => some kvs
    | _ => none
  | _ => none
theorem dctOf_ok {as : List Addr} {h : AH} {H : Hp} {p : P} {v : V} {kvs : List (Key × P)} (rh : RelH K as h H) (r : Rep K as H p v) (e : dctOf h p = some kvs) : ∃ a ws, v = .ref a ∧ H a = some (.dK ws) ∧ RepK K as H kvs ws := by
  cases p with
  | obj n =>
    have e : (match h[n]? with
      | some (.dct kvs) => some kvs
      | _ => none) = some kvs := e
    unfold Rep at r
    obtain ⟨a, rfl, ea⟩ := r
    split at e
    · rename_i ys z
      cases e
      obtain ⟨vs, h1, h2⟩ := rh.obj z ea
      exact ⟨a, vs, rfl, h1, h2⟩
    · cases e
  | non => cases e
  | bl _ => cases e
  | int _ => cases e
  | str _ => cases e
  | tup _ => cases e
  | lst _ => cases e
  | cls _ => cases e
  | scr _ => cases e
def fLen : FL := fun xs h => match xs with
  | [.str z] => if small z.length = true then .ok (.int z.length) h else .bad
  | [p] => (match seqOf h p with
    | some xs => .ok (.int xs.length) h
    | none => (match dctOf h p with
      | some kvs => .ok (.int kvs.length) h
      | none => .bad))
  | _ => .bad
def rLenA (K : PySem.W.Frag) : List V → Hp → VK → Prop := fun xs H Q => ((∃ p ys, xs = [.ref p] ∧ (SqL K H p ys ∨ SqT K H p ys) ∧ Q (.int ys.length) H) ∨ (∃ z, xs = [.str z] ∧ z.length ≤ sizeLine ∧ Q (.int z.length) H)) ∨ (∃ a kvs, xs = [V.ref a] ∧ H a = some (.dK kvs) ∧ Q (.int kvs.length) H)
theorem cr_len : CallR X (.builtin "len") (rLenA X.K) := (call_len_seq.or call_len_str).or L2.call_lenD
theorem sn_len : SndL K (rLenA K) fLen := fun {W s as h H p v Q} rh rp z => by
  unfold fLen at z
  split at z
  · obtain ⟨v, rfl, r⟩ := reps1 rp
    cases r
    split at z
    · rename_i l
      exact .inl (.inr ⟨_, rfl, small_ok l, Post.done z (Ext.refl _ _) rh rfl⟩)
    · exact z.elim
  · obtain ⟨v, rfl, r⟩ := reps1 rp
    split at z
    · rename_i xs e
      obtain ⟨a, vs, rfl, h1, h2⟩ := seqOf_ok rh r e
      refine .inl (.inl ⟨a, vs, rfl, h1, ?_⟩)
      rw [← h2.len]
      exact Post.done z (Ext.refl _ _) rh rfl
    · split at z
      · rename_i kvs e
        obtain ⟨a, ws, rfl, h1, h2⟩ := dctOf_ok rh r e
        refine .inr ⟨a, ws, rfl, h1, ?_⟩
        rw [← h2.len]
        exact Post.done z (Ext.refl _ _) rh rfl
      · exact z.elim
  · exact z.elim
/-- the bools of a list -/
def boolsOf : List P → Option (List Bool)
  | [] => some []
  | .bl b :: r => (boolsOf r).map (b :: ·)
  | _ :: _ => none
theorem boolsOf_ok {as : List Addr} {H : Hp} : ∀ {xs : List P} {vs : List V} {bs : List Bool}, Reps K as H xs vs → boolsOf xs = some bs → vs = bs.map V.bl
  | [], _, _, r, e => by
    cases e
    exact reps_inv0 r
  | .bl b :: xs, _, _, r, e => by
    obtain ⟨v, vr, rfl, h1, h2⟩ := reps_inv r
    unfold boolsOf at e
    obtain ⟨bs, e1, e2⟩ := Option.map_eq_some_iff.mp e
    subst e2
    cases h1
    rw [boolsOf_ok h2 e1]
    rfl
  | .non :: _, _, _, _, e => by cases e
  | .int _ :: _, _, _, _, e => by cases e
  | .str _ :: _, _, _, _, e => by cases e
  | .tup _ :: _, _, _, _, e => by cases e
  | .lst _ :: _, _, _, _, e => by cases e
  | .obj _ :: _, _, _, _, e => by cases e
  | .cls _ :: _, _, _, _, e => by cases e
  | .scr _ :: _, _, _, _, e => by cases e
def fAll : FL := fun xs h => match xs with
  | [p] => (match (lstOf h p).bind boolsOf with
    | some bs => .ok (.bl (bs.all id)) h
    | none => .bad)
  | _ => .bad
def fAny : FL := fun xs h => match xs with
  | [p] => (match (lstOf h p).bind boolsOf with
    | some bs => .ok (.bl (bs.any id)) h
    | none => .bad)
  | _ => .bad
theorem sn_all : SndL K (rAll K) fAll := fun {W s as h H p v Q} rh rp z => by
  unfold fAll at z
  split at z
  · obtain ⟨v, rfl, r⟩ := reps1 rp
    split at z
    · rename_i bs e
      obtain ⟨xs, e1, e2⟩ := Option.bind_eq_some_iff.mp e
      obtain ⟨a, vs, rfl, h1, h2⟩ := lstOf_ok rh r e1
      have ev := boolsOf_ok h2 e2
      subst ev
      exact ⟨a, bs, rfl, .of h1, Post.done z (Ext.refl _ _) rh rfl⟩
    · exact z.elim
  · exact z.elim
theorem sn_any : SndL K (rAny K) fAny := fun {W s as h H p v Q} rh rp z => by
  unfold fAny at z
  split at z
  · obtain ⟨v, rfl, r⟩ := reps1 rp
    split at z
    · rename_i bs e
      obtain ⟨xs, e1, e2⟩ := Option.bind_eq_some_iff.mp e
      obtain ⟨a, vs, rfl, h1, h2⟩ := lstOf_ok rh r e1
      have ev := boolsOf_ok h2 e2
      subst ev
      exact ⟨a, bs, rfl, .of h1, Post.done z (Ext.refl _ _) rh rfl⟩
    · exact z.elim
  · exact z.elim
def intsOf : List P → Option (List Int)
  | [] => some []
  | .int b :: r => (intsOf r).map (b :: ·)
  | _ :: _ => none
theorem intsOf_ok {as : List Addr} {H : Hp} : ∀ {xs : List P} {vs : List V} {bs : List Int}, Reps K as H xs vs → intsOf xs = some bs → vs = bs.map V.int
  | [], _, _, r, e => by
    cases e
    exact reps_inv0 r
  | .int b :: xs, _, _, r, e => by
    obtain ⟨v, vr, rfl, h1, h2⟩ := reps_inv r
    unfold intsOf at e
    obtain ⟨bs, e1, e2⟩ := Option.map_eq_some_iff.mp e
    subst e2
    cases h1
    rw [intsOf_ok h2 e1]
    rfl
  | .non :: _, _, _, _, e => by cases e
  | .bl _ :: _, _, _, _, e => by cases e
  | .str _ :: _, _, _, _, e => by cases e
  | .tup _ :: _, _, _, _, e => by cases e
  | .lst _ :: _, _, _, _, e => by cases e
  | .obj _ :: _, _, _, _, e => by cases e
  | .cls _ :: _, _, _, _, e => by cases e
  | .scr _ :: _, _, _, _, e => by cases e
def fSum : FL := fun xs h => match xs with
  | [p] => (match (lstOf h p).bind intsOf with
    | some bs => .ok (.int bs.sum) h
    | none => .bad)
  | _ => .bad
theorem sn_sum : SndL K (rSum K) fSum := fun {W s as h H p v Q} rh rp z => by
  unfold fSum at z
  split at z
  · obtain ⟨v, rfl, r⟩ := reps1 rp
    split at z
    · rename_i bs e
      obtain ⟨xs, e1, e2⟩ := Option.bind_eq_some_iff.mp e
      obtain ⟨a, vs, rfl, h1, h2⟩ := lstOf_ok rh r e1
      have ev := intsOf_ok h2 e2
      subst ev
      exact ⟨a, bs, rfl, .of h1, Post.done z (Ext.refl _ _) rh rfl⟩
    · exact z.elim
  · exact z.elim
def fInt : FL := fun xs h => match xs with
  | [.int i] => .ok (.int i) h
  | [.bl k] => .ok (.int (if k then 1 else 0)) h
  | [.str a] => (match PySem.intText? a with
    | some n => if a.length ≤ 640 then .ok (.int n) h else .bad
    | none => .bad)
  | _ => .bad
def rIntA : List V → Hp → VK → Prop := fun xs H Q => ((∃ i, xs = [.int i] ∧ Q (.int i) H) ∨ ∃ k, xs = [.bl k] ∧ Q (.int (if k then 1 else 0)) H) ∨ (∃ a n, xs = [.str a] ∧ PySem.intText? a = some n ∧ a.length ≤ 640 ∧ Q (.int n) H)
theorem cr_int : CallR X (.type "int") rIntA := call_int1.or call_int_str
theorem sn_intc : SndL K rIntA fInt := fun {W s as h H p v Q} rh rp z => by
  unfold fInt at z
  split at z
  · obtain ⟨v, rfl, r⟩ := reps1 rp
    cases r
    exact .inl (.inl ⟨_, rfl, Post.done z (Ext.refl _ _) rh rfl⟩)
  · obtain ⟨v, rfl, r⟩ := reps1 rp
    cases r
    exact .inl (.inr ⟨_, rfl, Post.done z (Ext.refl _ _) rh rfl⟩)
  · obtain ⟨v, rfl, r⟩ := reps1 rp
    cases r
    split at z
    · rename_i n e
      split at z
      · rename_i l
        exact .inr ⟨_, n, rfl, e, l, Post.done z (Ext.refl _ _) rh rfl⟩
      · exact z.elim
    · exact z.elim
  · exact z.elim
def fStr : FL := fun xs h => match xs with
  | [.int i] => if i.natAbs.log2 < 1920 then .ok (.str (toString i)) h else .bad
  | [.str a] => .ok (.str a) h
  | _ => .bad
def rStrA : List V → Hp → VK → Prop := fun xs H Q => (∃ i : Int, xs = [.int i] ∧ i.natAbs.log2 < 1920 ∧ Q (.str (toString i)) H) ∨ (∃ a, xs = [.str a] ∧ Q (.str a) H)
theorem cr_str : CallR X (.type "str") rStrA := call_str_int.or SkE.call_str_str
theorem sn_str : SndL K rStrA fStr := fun {W s as h H p v Q} rh rp z => by
  unfold fStr at z
  split at z
  · obtain ⟨v, rfl, r⟩ := reps1 rp
    cases r
    split at z
    · rename_i l
      exact .inl ⟨_, rfl, l, Post.done z (Ext.refl _ _) rh rfl⟩
    · exact z.elim
  · obtain ⟨v, rfl, r⟩ := reps1 rp
    cases r
    exact .inr ⟨_, rfl, Post.done z (Ext.refl _ _) rh rfl⟩
  · exact z.elim
def keyP : Key → P
  | .inl i => .int i
  | .inr x => .str x
theorem keys_rep {as : List Addr} {H : Hp} : ∀ {kvs : List (Key × P)} {ws : List (Key × V)}, RepK K as H kvs ws → Reps K as H (kvs.map fun kv => keyP kv.1) (ws.map fun kv => kV kv.1)
  | [], ws, h => by
    have z : ws = [] := by
      have := h.len
      cases ws with
      | nil => rfl
      | cons _ _ => simp at this
    subst z
    exact reps_nil
  | kv :: kvs, ws, h => by
    obtain ⟨v, r, rfl, e1, e2⟩ := repK_cons h
    refine reps_cons ?_ (keys_rep e2)
    obtain ⟨k, p⟩ := kv
    cases k with
    | inl i => show Rep K as H (.int i) (.int i); unfold Rep; rfl
    | inr x => show Rep K as H (.str x) (.str x); unfold Rep; rfl
def fList (b : Bool) : FL := fun xs h => match xs with
  | [p] => (match seqOf h p with
    | some xs => mkL b xs h
    | none => (match dctOf h p with
      | some kvs => mkL b (kvs.map fun kv => keyP kv.1) h
      | none => .bad))
  | _ => .bad
def rListA (K : PySem.W.Frag) : List V → Hp → VK → Prop := fun xs H Q => (∃ p ys, xs = [.ref p] ∧ (SqL K H p ys ∨ SqT K H p ys) ∧ ∀ l, H l = none → Q (.ref l) (upd H l (.lst ys))) ∨ rListD xs H Q
theorem cr_list (hc : X.calm = true) : CallR X (.type "list") (rListA X.K) := call_list_of.or (call_list_dK hc)
theorem sn_list {b : Bool} : SndL K (rListA K) (fList b) := fun {W s as h H p v Q} rh rp z => by
  unfold fList at z
  split at z
  · obtain ⟨v, rfl, r⟩ := reps1 rp
    split at z
    · rename_i xs e
      obtain ⟨a, vs, rfl, h1, h2⟩ := seqOf_ok rh r e
      exact .inl ⟨a, vs, rfl, h1, fun l e => post_mk rh h2 z l e⟩
    · split at z
      · rename_i kvs e
        obtain ⟨a, ws, rfl, h1, h2⟩ := dctOf_ok rh r e
        exact .inr ⟨a, ws, rfl, h1, fun l e => post_mk rh (keys_rep h2) z l e⟩
      · exact z.elim
  · exact z.elim
end
end AM

/-! AM11: tuple(..), isinstance, methods of lists and texts, dicts beside {}. -/
namespace AM
open PySem PySem.Spec PyProof.Rows L2
noncomputable section
variable {X : Cx} {W : WX} {K : PySem.W.Frag}

/-! ### tuple(d), d a dict: its keys -/
section
variable {prog : Program} {w : World} {A : Around} {E : Value → Shared → Prop} {s : Shared} {r d : Addr} {T : String} {n : Nat} {Pq : Nat → Value → Prop} {OK : Heap → Prop}
theorem code_tuple_src {Q1 : Value → Shared → Prop} (S : PySem.W.KdlSrc prog w T r d n Pq OK) (hh : A.handled = none) (hok : OK s.heap) (hn : n ≤ sizeLine) (hT : s.TypeIs (.ref r) T) (ne : T ≠ "tuple")
    (h : ∀ (h' : Heap) (tk : Nat) (acc : Array Value), (∀ b o, s.heap.get? b = some o → h'.get? b = some o) → ItemsOf Pq acc n →
      Q1 (.ref h'.objs.size) { s with heap := h'.push { cls := .type "tuple", data := .seq acc }, toks := tk }) :
    codeAny (model prog w) A (.call (.builtin "tuple.__new__") ⟨[.type "tuple", .ref r], []⟩) (wants Q1 E) s := by
  have hh2 : A.in1.handled = none := hh
  have hsub := sub_tuple_self
  have hinit := init_tuple_lookup
  have hmh := madeHere_tuple
  refine codeAny_of_tree ?_
  show wpAny _ A.in1 (do checkBuiltinCall "tuple.__new__" ⟨[.type "tuple", .ref r], []⟩; again (.builtin "tuple.__new__" ⟨[.type "tuple", .ref r], []⟩)) _ _ s
  refine wpAny_bind (wpAny_of_eq (F.newCall_tuple_1 _) (wpAny_pure ⟨plainId_quiet F.plain_tuple_new _, codeAny_builtin F.entry_tuple_new ?_⟩))
  rw [Around.under_plainId F.plain_tuple_new _]
  have hne : (Value.type T == Value.type "tuple") = false := by
    rw [beq_eq_false_iff_ne]
    intro z
    exact ne (Value.type.inj z)
  wp_walk using wpAny_typeOf hT, PySem.W.kdu_collect (A := A.in1) S hh2 hok hn
  intro h' tk acc hk hacc
  show wpAny _ _ (Builtin.Tuple.tupleExact acc.toList.toArray >>= fun v => ret v) _ _ _
  have ea : acc.toList.toArray = acc := by simp
  unfold Builtin.Tuple.tupleExact
  refine wpAny_bind (wpAny_newObj_type ?_ (by show acc.toList.toArray.size ≤ sizeLine; rw [ea, hacc.1]; exact hn))
  refine wpAny_pure ?_
  rw [ea]
  exact h h' tk acc hk hacc
end

/-- how a new tuple stands: as a tuple, or with its very object -/
def hoT (b : Bool) (o : Obj) (ys : List V) : HO := if b = true then .frz o (.tup ys) else .tup ys
/-- an object that is a plain tuple -/
def PlainT (o : Obj) : Prop := o.cls = .type "tuple" ∧ o.dict = none
theorem hoT_ok {prog : Program} {w : World} {H : Hp} {h : Heap} {b : Bool} {ys : List V} {its : List Value} {o : Obj} (hz : ys.length ≤ sizeLine) (r : Vals ys its) (e : o = { cls := .type "tuple", data := .seq its.toArray }) {a : Addr} (g : h.get? a = some o) : ObjOk prog w H h a (hoT b o ys) := by
  have z : ObjOk prog w H h a (.tup ys) := ⟨hz, its, r, o, g, by rw [e], 0, by rw [e]⟩
  cases b with
  | true => exact ⟨g, z⟩
  | false => exact z
def rTupD (b : Bool) : List V → Hp → VK → Prop := fun xs H Q => ∃ a ws, xs = [V.ref a] ∧ H a = some (.dK ws) ∧ ∀ p o, H p = none → PlainT o → Q (.ref p) (upd H p (hoT b o (ws.map fun kv => kV kv.1)))
theorem call_tupD {b : Bool} (hc : X.calm = true) : CallR X (.type "tuple") (rTupD b) := by
  intro pins s σ H xs us Q I r h
  obtain ⟨p, kvs, e, hk, q⟩ := h
  subst e
  obtain ⟨u, eu, rx⟩ := vals1 r
  subst eu
  obtain rfl : u = Value.ref p := rx
  obtain ⟨z, lo, vs, rk, hd⟩ := (show ObjOk X.prog X.w H s.heap p (.dK kvs) from I.hok p _ hk)
  obtain ⟨ep, hat⟩ := hd.dictAt
  have hl : kvs.length = vs.length := Paired.length rk
  refine callType_codes (Q₁ := fun obj s₁ => s₁.TypeIs obj "tuple" ∧ EP X pins σ Q obj s₁) F.called_tuple (F.typeCall_tuple_1 _) F.entry_object_init
    (code_tuple_src (A := X.A.in1) (PySem.W.kdl_dict (knd := mixKind X.prog X.w) (kvs := vs) (ep := ep) lo) (I.ok.hd hc) hat (by rw [← hl]; exact z) hat.dictOf.typeIs (by decide) fun h' tk acc hk hacc => ⟨⟨_, Heap.get?_push_size _ rfl, rfl⟩, ?_⟩) fun obj s₁ h₁ => ?_
  · have I1 : Inv X pins σ H { s with heap := h', toks := tk } := I.kept hk
    have el : acc.toList.length = acc.size := by simp
    have rv : Vals (kvs.map fun kv => kV kv.1) acc.toList := by
      refine vals_of_at (by rw [List.length_map, el, hacc.1, hl]) fun j x w h1 h2 => ?_
      obtain ⟨k, y, hky, hi⟩ := hacc.2 j w (by rw [← Array.getElem?_toList]; exact h2)
      have e1 : (kvs.map (·.1))[j]? = some k := by
        rw [KV.keys rk, List.getElem?_map, hky] <;> rfl
      have e2 : (kvs.map fun kv => kV kv.1) = (kvs.map (·.1)).map kV := by rw [List.map_map] <;> rfl
      rw [e2, List.getElem?_map, e1] at h1
      cases h1
      exact keyIs_rel hi
    have ez : (kvs.map fun kv => kV kv.1).length ≤ sizeLine := by rw [List.length_map]; exact z
    refine ⟨.ref h'.objs.size, upd H h'.objs.size (hoT b { cls := .type "tuple", data := .seq acc } (kvs.map fun kv => kV kv.1)), I1.laid (t' := tk) (fun c o e => Heap.get?_push_of_some _ e) (Nat.le_refl _)
      (hoT_ok ez rv (by simp) (Heap.get?_push_size _ rfl)), rfl, q _ _ (I1.hok.fresh (Nat.le_refl _)) ⟨rfl, rfl⟩⟩
  · exact ⟨h₁.1, F.args_object_init_2 obj _, object_init_meets F.called_tuple.init.lookup F.called_tuple.made (by decide) X.prog X.w X.A.in1 _ s₁ ⟨h₁.1, rfl, h₁.2⟩⟩
/-- tuple(x) of a list: a new one -/
def rTupL (K : PySem.W.Frag) (b : Bool) : List V → Hp → VK → Prop := fun xs H Q => ∃ a ys, xs = [V.ref a] ∧ SqL K H a ys ∧ ∀ p o, H p = none → PlainT o → Q (.ref p) (upd H p (hoT b o ys))
theorem call_tupL {b : Bool} : CallR X (.type "tuple") (rTupL X.K b) := by
  intro pins s σ H xs us Q I r h
  obtain ⟨p, ys, rfl, hq, q⟩ := h
  obtain ⟨u, rfl, rx⟩ := vals1 r
  cases rx
  obtain ⟨its, r', pl, hz⟩ := I.list hq
  have hlen := r'.length
  refine call_tuple_list pl.isList (fun h' kp => ?_) (by simp only [List.size_toArray] <;> omega)
  have I1 : Inv X pins σ H { s with heap := h' } := I.kept (t' := s.toks) kp
  exact ⟨.ref h'.objs.size, _, I1.laid (t' := s.toks) (fun b o e => Heap.get?_push_of_some _ e) (Nat.le_refl _) (hoT_ok (b := b) hz r' rfl (Heap.get?_push_size _ rfl)), rfl, q _ _ (I1.hok.fresh (Nat.le_refl _)) ⟨rfl, rfl⟩⟩
def rTupA (K : PySem.W.Frag) : List V → Hp → VK → Prop := fun xs H Q => ((∃ a ys, xs = [V.ref a] ∧ SqT K H a ys ∧ Q (.ref a) H) ∨ rTupL K false xs H Q) ∨ rTupD false xs H Q
theorem cr_tup (hc : X.calm = true) : CallR X (.type "tuple") (rTupA X.K) := (call_tupleT.or call_tupL).or (call_tupD hc)
def fTup : FL := fun xs h => match xs with
  | [.tup xs] => .ok (.tup xs) h
  | [p] => (match seqOf h p with
    | some xs => .ok (.tup xs) h
    | none => (match dctOf h p with
      | some kvs => .ok (.tup (kvs.map fun kv => keyP kv.1)) h
      | none => .bad))
  | _ => .bad
theorem seqOf_lst {as : List Addr} {h : AH} {H : Hp} {p : P} {v : V} {xs : List P} (rh : RelH K as h H) (r : Rep K as H p v) (e : seqOf h p = some xs) (n : ∀ ys, p ≠ .tup ys) : ∃ a vs, v = .ref a ∧ SqL K H a vs ∧ Reps K as H xs vs := by
  cases p with
  | tup ys => exact absurd rfl (n ys)
  | scr ys =>
    cases e
    unfold Rep at r
    obtain ⟨a, vs, o, rfl, _, h1, h2⟩ := r
    exact ⟨a, vs, rfl, .inl (.inr ⟨o, h1⟩), h2⟩
  | lst ys => obtain ⟨a, vs, h0, h1, h2⟩ := lstOf_ok rh r e; exact ⟨a, vs, h0, .of h1, h2⟩
  | obj n => obtain ⟨a, vs, h0, h1, h2⟩ := lstOf_ok rh r e; exact ⟨a, vs, h0, .of h1, h2⟩
  | non => cases e
  | bl _ => cases e
  | int _ => cases e
  | str _ => cases e
  | cls _ => cases e
theorem sn_tup : SndL K (rTupA K) fTup := fun {W s as h H p v Q} rh rp z => by
  unfold fTup at z
  split at z
  · obtain ⟨v, rfl, r⟩ := reps1 rp
    have r0 := r
    unfold Rep at r
    obtain ⟨a, vs, rfl, h1, h2⟩ := r
    exact .inl (.inl ⟨a, vs, rfl, h1.sq, Post.done z (Ext.refl _ _) rh r0⟩)
  · rename_i p nt
    obtain ⟨v, rfl, r⟩ := reps1 rp
    split at z
    · rename_i xs e
      obtain ⟨a, vs, rfl, h1, h2⟩ := seqOf_lst rh r e (fun ys e => nt ys (by rw [e]))
      exact .inl (.inr ⟨a, vs, rfl, h1, fun l o e _ => post_tup rh h2 z l e⟩)
    · split at z
      · rename_i kvs e
        obtain ⟨a, ws, rfl, h1, h2⟩ := dctOf_ok rh r e
        exact .inr ⟨a, ws, rfl, h1, fun l o e _ => post_tup rh (keys_rep h2) z l e⟩
      · exact z.elim
  · exact z.elim

/-! ### d == {} -/
def rEqD0 (neg : Bool) : R2 := fun x y H Q => ∃ a b ks, x = V.ref a ∧ y = V.ref b ∧ H a = some (.dK ks) ∧ H b = some (.dK []) ∧ Q (.bl (if neg = true then !ks.isEmpty else ks.isEmpty)) H
theorem len_beq0 {α β : Type} {xs : List α} {ys : List β} (h : xs.length = ys.length) : ((ys.length == 0) && true) = xs.isEmpty := by
  cases xs with
  | nil =>
    rw [← h]
    rfl
  | cons _ _ =>
    rw [← h]
    rfl
theorem op_eqD0 {k : Nat} (hk : Here X k) : OpR X (compareOp .Eq) (rEqD0 false) := by
  intro pins s σ H x y v u Q I rx ry h
  obtain ⟨a, b, ks, rfl, rfl, ea, eb, q⟩ := h
  obtain rfl : v = Value.ref a := rx
  obtain rfl : u = Value.ref b := ry
  obtain ⟨_, ya, va, ra, da⟩ := (show ObjOk X.prog X.w H s.heap a (.dK ks) from I.hok a _ ea)
  obtain ⟨_, yb, vb, rb, db⟩ := (show ObjOk X.prog X.w H s.heap b (.dK []) from I.hok b _ eb)
  cases rb
  have hu : X.A.units < cLine := by have := room64 hk; omega
  refine PySem.W.keq_eq (knd := mixKind X.prog X.w) (r := true) ya yb da db hu (fun e => ?_) (fin_bl I q ?_)
  · rw [List.eq_nil_of_length_eq_zero e]
    exact .nil
  · show ks.isEmpty = ((va.length == 0) && true)
    rw [len_beq0 (Paired.length ra)]
theorem op_neD0 {k : Nat} (hk : Here X k) : OpR X (compareOp .NotEq) (rEqD0 true) := by
  intro pins s σ H x y v u Q I rx ry h
  obtain ⟨a, b, ks, rfl, rfl, ea, eb, q⟩ := h
  obtain rfl : v = Value.ref a := rx
  obtain rfl : u = Value.ref b := ry
  obtain ⟨_, ya, va, ra, da⟩ := (show ObjOk X.prog X.w H s.heap a (.dK ks) from I.hok a _ ea)
  obtain ⟨_, yb, vb, rb, db⟩ := (show ObjOk X.prog X.w H s.heap b (.dK []) from I.hok b _ eb)
  cases rb
  have hu : X.A.units < cLine := by have := room64 hk; omega
  refine PySem.W.keq_ne (knd := mixKind X.prog X.w) (r := true) ya yb da db hu (fun e => ?_) (fin_bl I q ?_)
  · rw [List.eq_nil_of_length_eq_zero e]
    exact .nil
  · show (!ks.isEmpty) = !((va.length == 0) && true)
    rw [len_beq0 (Paired.length ra)]
def eqD0 (neg : Bool) : CmpF := fun p q h => match dctOf h p, dctOf h q with
  | some kvs, some [] => some (if neg = true then !kvs.isEmpty else kvs.isEmpty)
  | _, _ => none
theorem cs_eqD0 {neg : Bool} : CmpS K (rEqD0 neg) (eqD0 neg) := fun {as h H p q v w Q k} rh rp rq e z => by
  unfold eqD0 at e
  split at e
  · rename_i kvs z1 z2
    cases e
    obtain ⟨a, ws, rfl, h1, h2⟩ := dctOf_ok rh rp z1
    obtain ⟨b, ws', rfl, h3, h4⟩ := dctOf_ok rh rq z2
    have e0 : ws' = [] := by
      have := h4.len
      cases ws' with
      | nil => rfl
      | cons _ _ => simp at this
    subst e0
    refine ⟨a, b, ws, rfl, rfl, h1, h3, ?_⟩
    rw [← isEmpty_len h2.len]
    exact z
  · cases e

/-! ### isinstance -/
/-- the name of a value's built-in type -/
def tyP (h : AH) : P → Option String
  | .non => some "NoneType"
  | .bl _ => some "bool"
  | .int _ => some "int"
  | .str _ => some "str"
  | .tup _ => some "tuple"
  | .lst _ => some "list"
  | .scr _ => some "list"
  | .obj n => match h[n]? with
    | some (.lst _) => some "list"
    | some (.dct _) => some "dict"
    | _ => none
  | .cls _ => none
theorem tyP_ok {as : List Addr} {h : AH} {H : Hp} {p : P} {v : V} {T : String} (rh : RelH K as h H) (r : Rep K as H p v) (e : tyP h p = some T) : TyX K H v (.type T) := by
  cases p with
  | non => cases e; cases r; exact .base .non
  | bl b => cases e; cases r; exact .base (.bl b)
  | int b => cases e; cases r; exact .base (.int b)
  | str b => cases e; cases r; exact .base (.str b)
  | tup xs =>
    cases e
    unfold Rep at r
    obtain ⟨a, vs, rfl, h1, h2⟩ := r
    rcases h1 with ⟨_, h1 | ⟨o, h1⟩⟩ | ⟨o, its, n, h1, h3, _⟩
    · exact .base (.tup h1)
    · exact .fTuple h1
    · exact .kTuple h1 h3
  | lst xs =>
    cases e
    unfold Rep at r
    obtain ⟨a, vs, rfl, _, h1, h2⟩ := r
    exact .base (.lst h1)
  | scr xs =>
    cases e
    unfold Rep at r
    obtain ⟨a, vs, o, rfl, _, h1, h2⟩ := r
    exact .base (.frz h1)
  | obj n =>
    have e : (match h[n]? with
      | some (.lst _) => some "list"
      | some (.dct _) => some "dict"
      | _ => none) = some T := e
    unfold Rep at r
    obtain ⟨a, rfl, ea⟩ := r
    split at e
    · rename_i xs z
      cases e
      obtain ⟨vs, h1, _⟩ := rh.obj z ea
      exact .base (.lst h1)
    · rename_i xs z
      cases e
      obtain ⟨vs, h1, _⟩ := rh.obj z ea
      exact .base (.dK h1)
    · cases e
  | cls _ => cases e
/-- is a value of type T one of U? -/
def tyB (T U : String) : Bool := T == U || (T == "bool" && U == "int")
theorem kit_tab : ∀ T ∈ ["NoneType", "bool", "int", "str", "tuple", "list", "dict"], ∀ U ∈ ["bool", "int", "str", "tuple", "list", "dict"], kitB T U = some (tyB T U) := by decide +kernel
theorem tyP_in {h : AH} {p : P} {T : String} (e : tyP h p = some T) : T ∈ ["NoneType", "bool", "int", "str", "tuple", "list", "dict"] := by
  cases p with
  | obj n =>
    have e : (match h[n]? with
      | some (.lst _) => some "list"
      | some (.dct _) => some "dict"
      | _ => none) = some T := e
    split at e <;> cases e <;> decide
  | cls _ => cases e
  | non => cases e; decide
  | bl _ => cases e; decide
  | int _ => cases e; decide
  | str _ => cases e; decide
  | tup _ => cases e; decide
  | lst _ => cases e; decide
  | scr _ => cases e; decide
def eIsi (U : String) (m : EM) : EM := fun t h => (m t h).bind fun p h1 => match tyP h1 p with
  | some T => .ok (.bl (tyB T U)) h1
  | none => .bad
theorem w_isi {U : String} {x : Str} {e : Expr} {m : EM} {p1 p2 pos : Pos} (he : PEm X W e m) (hU : U ∈ ["bool", "int", "str", "tuple", "list", "dict"] := by decide) (hm : X.mg "isinstance" = none) (hm2 : X.mg x = none) (hv : bootBuiltins x = some (.type U) := by rfl)
    (hg : Gl X "isinstance" := by rfl) (hg2 : Gl X x := by rfl) (hn : x ≠ "__name__" := by decide) (hd : (x == ("__debug__" : Str)) = false := by decide)
    (hv1 : bootBuiltins "isinstance" = some (.builtin "isinstance") := by rfl)
    (h1 : starEach [e, .Name x p2] X.env = (false, eval e X.env) :: starEach [.Name x p2] X.env := by rfl) (h2 : starEach [.Name x p2] X.env = (false, eval (.Name x p2) X.env) :: starEach [] X.env := by rfl)
    (hpl : (backTo pos (starEach [.Name x p2] X.env)).any (·.1) = false := by rfl) :
    PEm X W (.Call (.Name "isinstance" p1) [e, .Name x p2] [] pos) (eIsi U m) := by
  refine PE_imp (pe_callB call_isi hg hm hv1 (pa_cons he (pa_cons (pe_bltn hg2 hm2 hv (show RelV (.ty U) (.type U) from rfl) hn hd) pa_nil h2) h1) (by decide) (by decide) h1 hpl) fun s H Q q => ?_
  obtain ⟨as, h, t, rh, rs, q⟩ := q
  refine ⟨as, h, t, rh, rs, (Post.bind (R := Rep X.K) q).mono fun v H1 z => ?_⟩
  obtain ⟨as1, h1, p, x1, r1, e1, q1⟩ := z
  split at q1
  · rename_i T z
    exact ⟨v, .ty U, .type T, .type U, tyB T U, rfl, .ty U, tyP_ok r1 e1 z, kit_ty (kit_tab T (tyP_in z) U hU), Post.done q1 (Ext.refl _ _) r1 rfl⟩
  · exact q1.elim

/-! ### methods of built-in types -/
abbrev MF := P → List P → AH → Out P
def SndM (K : PySem.W.Frag) (r : V → List V → Hp → VK → Prop) (f : MF) : Prop := ∀ {W : WX} {s : L2.St} {as : List Addr} {h : AH} {H : Hp} {p : P} {ps : List P} {v : V} {vs : List V} {Q : VK}, RelH K as h H → Rep K as H p v → Reps K as H ps vs → Post (Rep K) K W s as H (f p ps h) Q → r v vs H Q
def isTy (h : AH) (T : String) (p : P) : Bool := match p with
  | .str _ => T == "str"
  | .lst _ => T == "list"
  | .obj n => match h[n]? with
    | some (.lst _) => T == "list"
    | some (.dct _) => T == "dict"
    | _ => false
  | _ => false
theorem isTy_ok {as : List Addr} {h : AH} {H : Hp} {p : P} {v : V} {T : String} (rh : RelH K as h H) (r : Rep K as H p v) (e : isTy h T p = true) : tyV K T v H := by
  cases p with
  | str b => cases r; exact eq_of_beq e
  | lst xs =>
    unfold Rep at r
    obtain ⟨a, vs, rfl, _, h1, h2⟩ := r
    exact .inl ⟨eq_of_beq e, vs, .of h1⟩
  | obj n =>
    have e : (match h[n]? with
      | some (.lst _) => T == "list"
      | some (.dct _) => T == "dict"
      | _ => false) = true := e
    unfold Rep at r
    obtain ⟨a, rfl, ea⟩ := r
    split at e
    · rename_i xs z
      obtain ⟨vs, h1, _⟩ := rh.obj z ea
      exact .inl ⟨eq_of_beq e, vs, .of h1⟩
    · rename_i xs z
      obtain ⟨vs, h1, _⟩ := rh.obj z ea
      exact .inr (.inr (.inl ⟨eq_of_beq e, .inl ⟨vs, h1⟩⟩))
    · cases e
  | cls _ => cases e
  | non => cases e
  | bl _ => cases e
  | int _ => cases e
  | tup _ => cases e
  | scr _ => cases e
def eBM (T : String) (f : MF) (mo : EM) (a : LM) : EM := fun t h => (mo t h).bind fun x h1 => if isTy h1 T x = true then (a t h1).bind fun xs h2 => f x xs h2 else .bad
theorem w_bm {T id : String} {name : Str} {r : V → List V → Hp → VK → Prop} {f : MF} {o e : Expr} {es : List Expr} {mo : EM} {a : LM} {apos cpos : Pos} (pa : PlainAttrs T) (slot : Slot T name id) (hty : typeOf (.builtin id) = pure (.type "method_descriptor")) (hm : MtR X id r) (hs : SndM X.K r f)
    (ho : PEm X W o mo) (ha : PAm X W (e :: es) a) (hbase : attributeBase o name X.env (eval o X.env) = eval o X.env := by rfl)
    (hfew : ((backTo cpos (starEach (e :: es) X.env)).all (fun x => !x.1) && (backToKw cpos (keywordEach [] X.env)).all (fun x => x.1.isSome)
      && decide ((e :: es).length + ([] : List Keyword).length + (if ([] : List Keyword).isEmpty then 0 else 1) < 30)) = true := by rfl)
    (hline : (apos.endLine == cpos.line) = true := by rfl) (hst : starEach (e :: es) X.env = (false, eval e X.env) :: starEach es X.env := by rfl) (hplain : (backTo cpos (starEach es X.env)).any (·.1) = false := by rfl) :
    PEm X W (.Call (.Attribute o name apos) (e :: es) [] cpos) (eBM T f mo a) := by
  refine PE_imp (pe_bm pa slot hty hm ho ha hbase hfew hline hst hplain) fun s H Q q => ?_
  obtain ⟨as, h, t, rh, rs, q⟩ := q
  refine ⟨as, h, t, rh, rs, (Post.bind (R := Rep X.K) q).mono fun v H1 z => ?_⟩
  obtain ⟨as1, h1, p, x1, r1, e1, q1⟩ := z
  split at q1
  · rename_i z
    refine ⟨isTy_ok r1 e1 z, as1, h1, t, r1, rs.mono x1, (Post.bind (R := Reps X.K) q1).mono fun vs H2 z => ?_⟩
    obtain ⟨as2, h2, ps, x2, r2, e2, q2⟩ := z
    exact hs r2 (e1.mono x2) e2 q2
  · exact q1.elim
theorem w_bm0 {T id : String} {name : Str} {r : V → List V → Hp → VK → Prop} {f : MF} {o : Expr} {mo : EM} {apos cpos : Pos} (pa : PlainAttrs T) (slot : Slot T name id) (hty : typeOf (.builtin id) = pure (.type "method_descriptor")) (hm : MtR X id r) (hs : SndM X.K r f)
    (ho : PEm X W o mo) (hbase : attributeBase o name X.env (eval o X.env) = eval o X.env := by rfl) (hline : (apos.endLine == cpos.line) = true := by rfl) :
    PEm X W (.Call (.Attribute o name apos) [] [] cpos) (eBM T f mo lN) := by
  refine PE_imp (pe_bm0 pa slot hty hm ho hbase hline) fun s H Q q => ?_
  obtain ⟨as, h, t, rh, rs, q⟩ := q
  refine ⟨as, h, t, rh, rs, (Post.bind (R := Rep X.K) q).mono fun v H1 z => ?_⟩
  obtain ⟨as1, h1, p, x1, r1, e1, q1⟩ := z
  split at q1
  · rename_i z
    exact ⟨isTy_ok r1 e1 z, hs r1 e1 reps_nil q1⟩
  · exact q1.elim
/-- a tracked list, to be changed -/
theorem list_obj {as : List Addr} {h : AH} {H : Hp} {p : P} {v : V} {n : Nat} {xs : List P} (rh : RelH K as h H) (rp : Rep K as H p v) (e : p = .obj n) (z : h[n]? = some (.lst xs)) : ∃ a vs, v = .ref a ∧ as[n]? = some a ∧ H a = some (.lst vs) ∧ Reps K as H xs vs := by
  subst e
  unfold Rep at rp
  obtain ⟨a, rfl, ea⟩ := rp
  obtain ⟨vs, h1, h2⟩ := rh.obj z ea
  exact ⟨a, vs, rfl, ea, h1, h2⟩
theorem put_list {as : List Addr} {h : AH} {H : Hp} {n : Nat} {a : Addr} {xs : List P} {vs : List V} (rh : RelH K as h H) (ea : as[n]? = some a) (r : Reps K as H xs vs) : Ext as H as (upd H a (.lst vs)) ∧ RelH K as (h.set n (.lst xs)) (upd H a (.lst vs)) := by
  have x := Ext.put (o := .lst vs) rh ea
  exact ⟨x, rh.put ea ⟨vs, upd_same, r.mono x⟩⟩
def objL (h : AH) (p : P) : Option (Nat × List P) := match p with
  | .obj n => match h[n]? with
    | some (.lst xs) => some (n, xs)
    | _ => none
  | _ => none
theorem objL_ok {h : AH} {p : P} {n : Nat} {xs : List P} (e : objL h p = some (n, xs)) : p = .obj n ∧ h[n]? = some (.lst xs) := by
  unfold objL at e
  split at e
  · split at e
    · rename_i z
      cases e
      exact ⟨rfl, z⟩
    · cases e
  · cases e
def mAppend : MF := fun p ps h => match objL h p, ps with
  | some (n, xs), [y] => if xs.length < 16777216 then .ok .non (h.set n (.lst (xs ++ [y]))) else .bad
  | _, _ => .bad
theorem sn_append : SndM K rAppend mAppend := fun {W s as h H p ps v vs Q} rh rp rq z => by
  unfold mAppend at z
  split at z
  · rename_i n xs y e
    split at z
    · rename_i l
      obtain ⟨e1, e2⟩ := objL_ok e
      obtain ⟨a, ws, rfl, ea, h1, h2⟩ := list_obj rh rp e1 e2
      obtain ⟨u, rfl, ru⟩ := reps1 rq
      obtain ⟨x, r'⟩ := put_list rh ea (h2.app (reps_cons ru reps_nil))
      exact ⟨a, ws, u, rfl, rfl, h1, by rw [sizeLine_eq, ← h2.len]; exact l, Post.done z x r' rfl⟩
    · exact z.elim
  · exact z.elim
def mExtend : MF := fun p ps h => match objL h p, ps with
  | some (n, xs), [q] => (match lstOf h q with
    | some ys => if small (xs.length + ys.length) = true then .ok .non (h.set n (.lst (xs ++ ys))) else .bad
    | none => .bad)
  | _, _ => .bad
theorem sn_extend : SndM K rExtend mExtend := fun {W s as h H p ps v vs Q} rh rp rq z => by
  unfold mExtend at z
  split at z
  · rename_i n xs y e
    split at z
    · rename_i ys ey
      split at z
      · rename_i l
        obtain ⟨e1, e2⟩ := objL_ok e
        obtain ⟨a, ws, rfl, ea, h1, h2⟩ := list_obj rh rp e1 e2
        obtain ⟨u, rfl, ru⟩ := reps1 rq
        obtain ⟨b, zs, rfl, h3, h4⟩ := lstOf_ok rh ru ey
        obtain ⟨x, r'⟩ := put_list rh ea (h2.app h4)
        exact ⟨a, b, ws, zs, rfl, rfl, h1, h3, by rw [← h2.len, ← h4.len]; exact small_ok l, Post.done z x r' rfl⟩
      · exact z.elim
    · exact z.elim
  · exact z.elim
def mPop : MF := fun p ps h => match objL h p, ps with
  | some (n, xs), [] => (match xs[xs.length - 1]? with
    | some y => .ok y (h.set n (.lst xs.dropLast))
    | none => .bad)
  | some (n, xs), [.int i] => if -1000000 ≤ i ∧ i < 1000000 then (match seqIndex? i xs.length with
    | some k => (match xs[k]? with
      | some y => .ok y (h.set n (.lst (xs.eraseIdx k)))
      | none => .bad)
    | none => .bad) else .bad
  | _, _ => .bad
def rPopA : V → List V → Hp → VK → Prop := fun x vs H Q => rPop x vs H Q ∨ rPopAt x vs H Q
theorem mt_popA : MtR X "list.pop" rPopA := MtR.or mt_pop mt_popAt
theorem Reps.dropLast {as : List Addr} {H : Hp} {xs : List P} {vs : List V} (r : Reps K as H xs vs) : Reps K as H xs.dropLast vs.dropLast := by
  rw [List.dropLast_eq_take, List.dropLast_eq_take, r.len]
  exact r.take _
theorem sn_pop : SndM K rPopA mPop := fun {W s as h H p ps v vs Q} rh rp rq z => by
  unfold mPop at z
  split at z
  · rename_i n xs e
    split at z
    · rename_i y hy
      obtain ⟨e1, e2⟩ := objL_ok e
      obtain ⟨a, ws, rfl, ea, h1, h2⟩ := list_obj rh rp e1 e2
      obtain ⟨u, e3, ru⟩ := h2.get hy
      obtain ⟨x, r'⟩ := put_list rh ea h2.dropLast
      rw [reps_inv0 rq]
      exact .inl ⟨a, ws, u, rfl, rfl, h1, by rw [← h2.len]; exact e3, Post.done z x r' (ru.mono x)⟩
    · exact z.elim
  · rename_i n xs i e
    split at z
    · rename_i l
      split at z
      · rename_i k hk
        split at z
        · rename_i y hy
          obtain ⟨e1, e2⟩ := objL_ok e
          obtain ⟨a, ws, rfl, ea, h1, h2⟩ := list_obj rh rp e1 e2
          obtain ⟨u, e3, ru⟩ := h2.get hy
          obtain ⟨x, r'⟩ := put_list rh ea (h2.erase k)
          obtain ⟨u2, rfl, ru2⟩ := reps1 rq
          cases ru2
          exact .inr ⟨a, ws, i, k, u, rfl, rfl, h1, by omega, by omega, by rw [← h2.len]; exact hk, e3, Post.done z x r' (ru.mono x)⟩
        · exact z.elim
      · exact z.elim
    · exact z.elim
  · exact z.elim
/-- the texts of a list -/
def strsOf : List P → Option (List Str)
  | [] => some []
  | .str b :: r => (strsOf r).map (b :: ·)
  | _ :: _ => none
theorem strsOf_ok {as : List Addr} {H : Hp} : ∀ {xs : List P} {vs : List V} {bs : List Str}, Reps K as H xs vs → strsOf xs = some bs → vs = bs.map V.str
  | [], _, _, r, e => by
    cases e
    exact reps_inv0 r
  | .str b :: xs, _, _, r, e => by
    obtain ⟨v, vr, rfl, h1, h2⟩ := reps_inv r
    unfold strsOf at e
    obtain ⟨bs, e1, e2⟩ := Option.map_eq_some_iff.mp e
    subst e2
    cases h1
    rw [strsOf_ok h2 e1]
    rfl
  | .non :: _, _, _, _, e => by cases e
  | .bl _ :: _, _, _, _, e => by cases e
  | .int _ :: _, _, _, _, e => by cases e
  | .tup _ :: _, _, _, _, e => by cases e
  | .lst _ :: _, _, _, _, e => by cases e
  | .obj _ :: _, _, _, _, e => by cases e
  | .cls _ :: _, _, _, _, e => by cases e
  | .scr _ :: _, _, _, _, e => by cases e
theorem reps_strs {as : List Addr} {H : Hp} : ∀ (ys : List Str), Reps K as H (ys.map P.str) (ys.map V.str)
  | [] => reps_nil
  | y :: ys => reps_cons (show Rep K as H (.str y) (.str y) by unfold Rep; rfl) (reps_strs ys)
/-- index: of texts, numbers, flat things in a list -/
def mIndex : MF := fun p ps h => match ps with
  | [q] => (match dat h p, dat h q with
    | some (.list ds), some d => if SeqAt.shaped (.list ds) = true ∧ SeqAt.shaped d = true ∧ ds.findIdx (fun z => PyData.eqv z d) < ds.length then .ok (.int (ds.findIdx (fun z => PyData.eqv z d) : Nat)) h else .bad
    | _, _ => .bad)
  | _ => .bad
theorem sn_index : SndM K (rIndexD K) mIndex := fun {W s as h H p ps v vs Q} rh rp rq z => by
  unfold mIndex at z
  split at z
  · rename_i q
    split at z
    · rename_i ds d e1 e2
      split at z
      · rename_i l
        obtain ⟨u, rfl, ru⟩ := reps1 rq
        have d1 := dat_ok rh rp e1
        have hv : ∃ a, v = .ref a := by cases d1; exact ⟨_, rfl⟩
        obtain ⟨a, rfl⟩ := hv
        refine ⟨a, u, d, ds, _, ds[ds.findIdx (fun z => PyData.eqv z d)]'l.2.2, rfl, rfl, d1, dat_ok rh ru e2, l.1, l.2.1, List.getElem?_eq_getElem l.2.2, (by have y := List.findIdx_getElem (p := fun z => PyData.eqv z d) (xs := ds) (w := l.2.2); exact y), fun m z' hm hz => ?_, Post.done z (Ext.refl _ _) rh rfl⟩
        have := List.not_of_lt_findIdx hm
        have hl : m < ds.length := Nat.lt_trans hm l.2.2
        rw [List.getElem?_eq_getElem hl] at hz
        cases hz
        simpa using this
      · exact z.elim
    · exact z.elim
  · exact z.elim

/-! ### texts -/
def eM1 (f : F2) (a b : EM) : EM := fun t h => (a t h).bind fun x h1 => match x with
  | .str _ => (b t h1).bind fun y h2 => f x y h2
  | _ => .bad
def SndM1 (K : PySem.W.Frag) (r : V → List V → Hp → VK → Prop) (f : F2) : Prop := Snd2 K (fun x y H Q => r x [y] H Q) f
theorem m1_post {r : V → List V → Hp → VK → Prop} {f : F2} {ma mb : EM} {s : L2.St} {H : Hp} {Q : VK} (hs : SndM1 X.K r f) (q : TEm X.K W (eM1 f ma mb) s H Q) : tM1 r (TEm X.K W ma) (TEm X.K W mb) s H Q := by
  obtain ⟨as, h, t, rh, rs, q⟩ := q
  refine ⟨as, h, t, rh, rs, (Post.bind (R := Rep X.K) q).mono fun v H1 z => ?_⟩
  obtain ⟨as1, h1, p, x1, r1, e1, q1⟩ := z
  split at q1
  · rename_i y
    have ev : v = .str y := e1
    refine ⟨⟨y, ev⟩, as1, h1, t, r1, rs.mono x1, (Post.bind (R := Rep X.K) q1).mono fun v2 H2 z => ?_⟩
    obtain ⟨as2, h2, p2, x2, r2, e2, q2⟩ := z
    exact hs r2 (e1.mono x2) e2 q2
  · exact q1.elim
def fJoin : F2 := fun p q h => match p with
  | .str a => (match (seqOf h q).bind strsOf with
    | some ys => if (ys.map (·.length)).sum + ys.length * a.length ≤ 16777216 then .ok (.str (Txt.join a ys)) h else .bad
    | none => .bad)
  | _ => .bad
theorem sn_join : SndM1 K (fun x xs H Q => ∃ a p, ∃ ys : List Str, x = .str a ∧ xs = [.ref p] ∧ (SqL K H p (ys.map V.str) ∨ SqT K H p (ys.map V.str)) ∧ (ys.map (·.length)).sum + ys.length * a.length ≤ 16777216 ∧ Q (.str (Txt.join a ys)) H) fJoin := fun {W s as h H p q v w Q} rh rp rq z => by
  unfold fJoin at z
  split at z
  · cases rp
    split at z
    · rename_i ys e
      obtain ⟨xs, e1, e2⟩ := Option.bind_eq_some_iff.mp e
      obtain ⟨a, vs, rfl, h1, h2⟩ := seqOf_ok rh rq e1
      have ev := strsOf_ok h2 e2
      subst ev
      split at z
      · rename_i l
        exact ⟨_, a, ys, rfl, rfl, h1, l, Post.done z (Ext.refl _ _) rh rfl⟩
      · exact z.elim
    · exact z.elim
  · exact z.elim
theorem w_join {o e : Expr} {mo me : EM} {apos pos : Pos} (ho : PEm X W o mo) (he : PEm X W e me) (hs : starEach [e] X.env = [(false, eval e X.env)] := by rfl) (hbase : attributeBase o "join" X.env (eval o X.env) = eval o X.env := by rfl) (hline : (apos.endLine == pos.line) = true := by rfl) :
    PEm X W (.Call (.Attribute o "join" apos) [e] [] pos) (eM1 fJoin mo me) := PE_imp (pe_join ho he hs hbase hline) fun s H Q q => m1_post sn_join q
def fSplit (b : Bool) : F2 := fun p q h => match p, q with
  | .str a, .str c => if (c.length == 0) = false ∧ a.length + 2 ≤ 16777216 then mkL b ((Txt.split a c).map P.str) h else .bad
  | _, _ => .bad
theorem sn_split {b : Bool} : SndM1 K (fun x xs H Q => ∃ a b, x = .str a ∧ xs = [.str b] ∧ (b.length == 0) = false ∧ a.length + 2 ≤ sizeLine ∧ rNewStrs (Txt.split a b) H Q) (fSplit b) := fun {W s as h H p q v w Q} rh rp rq z => by
  unfold fSplit at z
  split at z
  · split at z
    · rename_i l
      cases rp
      cases rq
      exact ⟨_, _, rfl, rfl, l.1, by rw [sizeLine_eq]; exact l.2, fun p e => post_mk rh (reps_strs _) z p e⟩
    · exact z.elim
  · exact z.elim
theorem w_split (b : Bool) {o e : Expr} {mo me : EM} {apos pos : Pos} (ho : PEm X W o mo) (he : PEm X W e me) (hs : starEach [e] X.env = [(false, eval e X.env)] := by rfl) (hbase : attributeBase o "split" X.env (eval o X.env) = eval o X.env := by rfl) (hline : (apos.endLine == pos.line) = true := by rfl) :
    PEm X W (.Call (.Attribute o "split" apos) [e] [] pos) (eM1 (fSplit b) mo me) := PE_imp (pe_split ho he hs hbase hline) fun s H Q q => m1_post sn_split q
end
end AM

/-! AM12: what loops go over; for, while. -/
namespace AM
open PySem PySem.Spec PyProof.Rows L2

/-! ### enumerate(t), t a tuple -/
theorem meets_enum1 {v : Value} {o : Obj} {G : Heap → Prop} (B : Begins v o G) : Meets (Builtin.«enumerate.__new__» ⟨[.type "enumerate", v], []⟩) (fun _ R s => G s.heap ∧
      R (.ok (.ret (.ref (s.heap.push o).objs.size))) { s with heap := (s.heap.push o).push { cls := .type "enumerate", data := .fields #[.none, .bool false, .ref s.heap.objs.size, rawInt 0, .none, .none] } }) :=
  .of_wp fun prog w A R s z => by
    obtain ⟨hp, gs, ds, tk, os⟩ := s
    obtain ⟨z1, z2⟩ := z
    have subs := sub_enumerate
    have begun : ∀ {A2 : Around} {E2 : Value → Shared → Prop} {Q2 : Value → Shared → Prop}, Q2 (.ref hp.objs.size) ⟨hp.push o, gs, ds, tk, os⟩ → wpAny (model prog w) A2 (pyIter v) Q2 E2 ⟨hp, gs, ds, tk, os⟩ := fun q => B.iter prog w _ _ ⟨hp, gs, ds, tk, os⟩ _ z1 q
    wp_walk using begun
    refine (wpAny_stack_any fun _ => wpAny_pure ?_)
    split
    · rename_i c _ _ _ _ _
      cases (c == Value.type "enumerate") <;> (wp_walk using begun; exact ⟨_, rfl, z2⟩)
    · wp_walk using begun
      exact ⟨_, rfl, z2⟩
theorem enum1_begins {prog : Program} {w : World} {A : Around} {E : Value → Shared → Prop} {s : Shared} {v : Value} {o : Obj} {G : Heap → Prop} {Q : Value → Shared → Prop} (B : Begins v o G) (h1 : G s.heap)
    (h : ∀ h2, IsEnum h2 (s.heap.objs.size + 1) s.heap.objs.size 0 .none → h2.get? s.heap.objs.size = some o → (∀ b u, s.heap.get? b = some u → h2.get? b = some u) → Q (.ref (s.heap.objs.size + 1)) { s with heap := h2 }) :
    wpAny (model prog w) A (call (.type "enumerate") [v]) Q E s := by
  refine callType_new F.called_enumerate (by decide) (F.typeCall_enumerate_1 _) (F.newCall_enumerate_1 _) (fun ob => F.args_object_init_2 ob _) F.entry_enumerate_new (meets_enum1 B) ⟨h1, ?_⟩
  have z : (s.heap.push o).objs.size = s.heap.objs.size + 1 := Heap.size_push ..
  show _ ∧ _
  rw [z]
  have e0 : IsEnum ((s.heap.push o).push { cls := .type "enumerate", data := .fields #[.none, .bool false, .ref s.heap.objs.size, rawInt 0, .none, .none] }) (s.heap.objs.size + 1) s.heap.objs.size 0 .none := by
    have y := Heap.get?_push_size (s.heap.push o) (o := { cls := .type "enumerate", data := .fields #[.none, .bool false, .ref s.heap.objs.size, rawInt 0, .none, .none] }) rfl
    rw [z] at y
    exact y
  exact ⟨⟨_, e0, rfl⟩, h _ e0 (Heap.get?_push_of_some _ (Heap.get?_push_size _ B.free)) fun b u x => Heap.get?_push_of_some _ (Heap.get?_push_of_some _ x)⟩
/-- the tuple at a, each item in a new pair with its place -/
def IteT (K : PySem.W.Frag) (a : Addr) : It :=
  ⟨fun i H => ∃ (xs : List V) (x : V), SqT K H a xs ∧ xs[i]? = some x, fun i H v H2 => ∃ T x, v = .ref T ∧ H T = none ∧ H2 = upd H T (.tup [.int (i : Nat), x]) ∧ ∀ xs, SqT K H a xs → xs[i]? = some x, fun i H => ∃ xs : List V, SqT K H a xs ∧ xs.length = i⟩
theorem turn_enumT {P : Program} {w : World} {K : PySem.W.Frag} {elts : List Expr} {kk : Nat} {tpos : Pos} (a e it : Addr) (ne1 : e ≠ it) (ne2 : a ≠ e) (ne3 : a ≠ it) :
    Turn P w K (.Tuple elts kk tpos) (IteT K a) [e, it] e (fun i h => (∃ old, IsEnum h e it ((i : Nat) : Int) old) ∧ h.IsTupleIter it a i) where
  mem := List.mem_cons_self ..
  obj := fun i h st b hb => by
    obtain ⟨⟨old, he⟩, ⟨o, ho, hc, hd⟩⟩ := st
    rcases List.mem_cons.mp hb with z | z
    · subst z; exact ⟨_, he, fun v q => nomatch q⟩
    · rw [List.mem_singleton.mp z]; exact ⟨o, ho, fun v q => by rw [hd] at q; cases q⟩
  keep := fun i h h2 st k => let ⟨⟨old, he⟩, hi⟩ := st; ⟨⟨old, k e (List.mem_cons_self ..) _ he⟩, hi.at fun o q => k it (by simp) o q⟩
  item := by
    intro X hP hw hK hc i pins s σ H E I hf st hg
    subst hP hw hK
    obtain ⟨⟨old, he⟩, hit⟩ := st
    obtain ⟨xs, x, hq, hx⟩ := hg
    obtain ⟨its, rv, p, _⟩ := I.tuple hq
    obtain ⟨u0, hu, ru⟩ := rv.get hx
    have hel : e < s.heap.objs.size := Heap.lt_size he
    have hil : it < s.heap.objs.size := by obtain ⟨_, q, _⟩ := hit; exact Heap.lt_size q
    have hlt : i < its.toArray.size := by
      rw [List.size_toArray]
      exact (List.getElem?_eq_some_iff.mp hu).1
    refine wpAny_pyNext_enum_itemD (A := X.A) (Draws.tuple (A := X.A.in1) (I.ok.hd hc) it a ne3 its.toArray) he ⟨hit, p⟩ hlt ne1 (by simp [ne1, Ne.symm ne2]) fun u h2 tk hu2 ho hit2 hT hsz hk => ?_
    have eu : u = u0 := by
      have z : its[i]? = some u := by simpa using hu2
      rw [hu] at z
      exact (Option.some.inj z).symm
    subst eu
    refine ⟨_, rfl, wpAny_letOwnedTupleGo_enum (s := { s with heap := h2, toks := tk + 1 }) ho fun h3 he3 sb => ?_⟩
    have hT3 : h3.get? s.heap.objs.size = some { cls := .type "tuple", data := .seq #[.int i tk, u] } := (sb.2 _ (Nat.ne_of_gt hel)).trans hT
    have new : ObjOk X.prog X.w (upd H s.heap.objs.size (.tup [.int (i : Nat), x])) h3 s.heap.objs.size (.tup [.int (i : Nat), x]) :=
      ⟨by show 2 ≤ sizeLine; decide, [.int i tk, u], .cons ⟨_, rfl⟩ (.cons ru .nil), ⟨_, hT3, rfl, _, rfl⟩⟩
    have I1 : Inv X pins σ (upd H s.heap.objs.size (.tup [.int (i : Nat), x])) { s with heap := h3, toks := tk + 1 } :=
      I.turnedNew (ch := [e, it]) (fun b ob hb q => (sb.2 b (fun z => hb (by simp [z]))).trans (hk b ob (fun z => hb (by simp [z])) (fun z => hb (by simp [z])) q)) hf (Nat.le_refl _) new
    refine ⟨.ref s.heap.objs.size, _, I1, rfl, ⟨_, x, rfl, I.hok.fresh (Nat.le_refl _), rfl, fun ys hy => by rw [I.tuple_inj hy hq]; exact hx⟩, ⟨⟨u, ?_⟩, hit2.1.at fun o q => (sb.2 it (Ne.symm ne1)).trans q⟩, fun b hb => ?_⟩
    · have e1 : ((i + 1 : Nat) : Int) = (i : Int) + 1 := by omega
      rw [e1]
      exact he3
    · have lt : b < s.heap.objs.size := by
        rcases List.mem_cons.mp hb with z | z
        · rw [z]; exact hel
        · rw [List.mem_singleton.mp z]; exact hil
      rw [upd_ne (Nat.ne_of_lt lt)]
      exact (hf b hb).1
  done := by
    intro X hP hw hK hc i pins s σ H E I hf st hg
    subst hP hw hK
    obtain ⟨⟨old, he⟩, hit⟩ := st
    obtain ⟨xs, hq, hx⟩ := hg
    obtain ⟨its, rv, p, _⟩ := I.tuple hq
    obtain ⟨f0, f1, f2, f3, f4, f5⟩ := hf it (by simp)
    have hl := rv.length
    have hn : its.toArray.size = i := by rw [List.size_toArray, ← hl, hx]
    exact wpAny_pyNext_enum_endD (A := X.A) (Draws.tuple (A := X.A.in1) (I.ok.hd hc) it a ne3 its.toArray) he (by rw [hn]; exact ⟨hit, p⟩) fun h2 eb => ⟨rfl, I.turned (t' := s.toks) (fun b o hb q => eb b o hb q) f0 f1 f3 f4 f5⟩
  self := fun A i s Q E st h => let ⟨⟨_, he⟩, _⟩ := st; wpAny_pyIter_enum he h

def iEnumT (K : PySem.W.Frag) (ta : TA) : TI := fun σ H R => ta σ H fun vs H1 => ∃ a xs, vs = [V.ref a] ∧ SqT K H1 a xs ∧ R (IteT K a) H1
theorem pi_enumT {X : Cx} {e : Expr} {ta : TA} {p pos tpos : Pos} {elts : List Expr} {kk : Nat} (hg : Gl X "enumerate") (hm : X.mg "enumerate" = none) (ha : PA X [e] ta) (hs : starEach [e] X.env = [(false, eval e X.env)] := by rfl) :
    PI X (.Tuple elts kk tpos) (.Call (.Name "enumerate" p) [e] [] pos) (iEnumT X.K ta) := by
  refine ⟨fun pins s σ H R I h => ?_⟩
  refine Call_ (ld_blt I hg hm boot_enumerate (PyProof.Rows.callWith_type1 (thn (ha.run pos pins s σ H _ I h) fun us s1 ⟨vs, H1, I1, r1, q1⟩ => ?_) hs rfl))
  obtain ⟨a, xs, ex, hq, q⟩ := q1
  subst ex
  obtain ⟨u, rfl, ru⟩ := vals1 r1
  cases ru
  obtain ⟨its, rv, p2, hz⟩ := I1.tuple hq
  have la : a < s1.heap.objs.size := p2.lt
  refine enum1_begins (begins_tuple a its.toArray) p2 fun h2 he hit hk => wpAny_pyIter_enum he ?_
  have I2 : Inv X pins σ H1 { s1 with heap := h2 } := I1.kept (t' := s1.toks) hk
  refine ⟨s1.heap.objs.size + 1, [s1.heap.objs.size + 1, s1.heap.objs.size], _, _, H1, rfl, I2, turn_enumT a (s1.heap.objs.size + 1) s1.heap.objs.size (Nat.succ_ne_self _) (Nat.ne_of_lt (Nat.lt_succ_of_lt la)) (Nat.ne_of_lt la), ⟨⟨.none, he⟩, ⟨_, hit, rfl, rfl⟩⟩, fun b hb => ?_, q⟩
  have hle : s1.heap.objs.size ≤ b := by
    rcases List.mem_cons.mp hb with z | z
    · rw [z]; exact Nat.le_add_right _ _
    · rw [List.mem_singleton.mp z]; exact Nat.le_refl _
  exact I1.fpOk hle (I1.hok.fresh hle)
theorem PI_or {X : Cx} {tg e : Expr} {t t1 t2 : TI} (h1 : PI X tg e t1) (h2 : PI X tg e t2) (i : ∀ s H R, t s H R → t1 s H R ∨ t2 s H R) : PI X tg e t := ⟨fun pins s σ H R I q => by
  rcases i _ _ _ q with q | q
  · exact h1.run pins s σ H R I q
  · exact h2.run pins s σ H R I q⟩
theorem PI_imp {X : Cx} {tg e : Expr} {t t1 : TI} (h1 : PI X tg e t1) (i : ∀ s H R, t s H R → t1 s H R) : PI X tg e t := ⟨fun pins s σ H R I q => h1.run pins s σ H R I (i _ _ _ q)⟩

/-! ### what a loop goes over: a sequence, and the list that is watched -/
structure Src where
  xs : List P
  w : List Nat
/-- the watched lists stand -/
def Src.still (S : Src) (h0 h : AH) : Prop := ∀ n ∈ S.w, h[n]? = h0[n]?
/-- the iterator J yields xs, wherever the watched lists stand as they stood -/
def Goes2 (K : PySem.W.Frag) (J : It) (S : Src) (as0 : List Addr) (h0 : AH) (H0 : Hp) : Prop := ∀ (as : List Addr) (h : AH) (H : Hp), Ext as0 H0 as H → RelH K as h H → S.still h0 h →
  J.stop S.xs.length H ∧ ∀ (i : Nat) (p : P), S.xs[i]? = some p → J.go i H ∧ ∀ x H', J.yld i H x H' → Ext as H as H' ∧ RelH K as h H' ∧ Rep K as H' p x
abbrev IM := AM.Loc → AH → Out Src
def TIm (K : PySem.W.Frag) (W : WX) (m : IM) : TI := fun s H R => ∃ as h t, RelH K as h H ∧ RepS K as H t s ∧ (match m t h with
  | .ok S h1 => ∀ as1 H1 J, Ext as H as1 H1 → RelH K as1 h1 H1 → Goes2 K J S as1 h1 H1 → R J H1
  | .exc c p h1 => ExcP K W s as H c p h1
  | .bad => False)
abbrev PIm (X : Cx) (W : WX) (tg e : Expr) (m : IM) : Prop := PI X tg e (TIm X.K W m)
noncomputable section
variable {X : Cx} {W : WX} {K : PySem.W.Frag}
/-- from an expression's result -/
theorem post_src {α β : Type} {Rr : List Addr → Hp → α → β → Prop} {s : L2.St} {as : List Addr} {H : Hp} {o : Out α} {f : α → AH → Out Src} {R : It → Hp → Prop}
    (q : match o.bind f with
      | .ok S h1 => ∀ as1 H1 J, Ext as H as1 H1 → RelH K as1 h1 H1 → Goes2 K J S as1 h1 H1 → R J H1
      | .exc c p h1 => ExcP K W s as H c p h1
      | .bad => False) :
    Post Rr K W s as H o (fun b H1 => ∃ as1 h1 a S, Ext as H as1 H1 ∧ RelH K as1 h1 H1 ∧ Rr as1 H1 a b ∧ o = .ok a h1 ∧ ((∃ h2, f a h1 = .ok S h2 ∧ ∀ as2 H2 J, Ext as1 H1 as2 H2 → RelH K as2 h2 H2 → Goes2 K J S as2 h2 H2 → R J H2) ∨ (∃ c p h2, f a h1 = .exc c p h2 ∧ ExcP K W s as1 H1 c p h2))) := by
  cases o with
  | ok a h =>
    intro as1 H1 b x r e
    have q : match f a h with
      | .ok S h1 => ∀ as1 H1 J, Ext as H as1 H1 → RelH K as1 h1 H1 → Goes2 K J S as1 h1 H1 → R J H1
      | .exc c p h1 => ExcP K W s as H c p h1
      | .bad => False := q
    cases z : f a h with
    | ok S h2 =>
      rw [z] at q
      exact ⟨as1, h, a, S, x, r, e, rfl, .inl ⟨h2, z, fun as2 H2 J x2 => q as2 H2 J (x.trans x2)⟩⟩
    | exc c p h2 =>
      rw [z] at q
      exact ⟨as1, h, a, ⟨[], []⟩, x, r, e, rfl, .inr ⟨c, p, h2, z, ExcP.ext q x⟩⟩
    | bad => rw [z] at q; exact q.elim
  | exc c p h => exact q
  | bad => exact q

/-! ### the sources -/
def watch (h : AH) : P → List Nat
  | .obj n => [n]
  | _ => []
def srcSeq : P → AH → Out Src := fun p h => match p with
  | .tup xs => .ok ⟨xs, []⟩ h
  | .scr xs => .ok ⟨xs, []⟩ h
  | .str x => .ok ⟨x.cps.toList.map fun c => P.str ⟨#[c]⟩, []⟩ h
  | .lst xs => .ok ⟨xs, []⟩ h
  | .obj n => match h[n]? with
    | some (.lst xs) => .ok ⟨xs, [n]⟩ h
    | _ => .bad
  | _ => .bad
def iSeq (m : EM) : IM := fun t h => (m t h).bind srcSeq
/-- a list that stands in all that comes -/
theorem list_stands {as : List Addr} {h : AH} {H : Hp} {p : P} {v : V} {S : Src} {h1 : AH} (rh : RelH K as h H) (rp : Rep K as H p v) (e : srcSeq p h = .ok S h1) (n1 : ∀ xs, p ≠ .tup xs) (n2 : ∀ x, p ≠ .str x) :
    h1 = h ∧ ∃ a, v = .ref a ∧ ∀ as2 h2 H2, Ext as H as2 H2 → RelH K as2 h2 H2 → S.still h h2 → ∃ vs, SqL K H2 a vs ∧ Reps K as2 H2 S.xs vs := by
  cases p with
  | tup xs => exact absurd rfl (n1 xs)
  | str x => exact absurd rfl (n2 x)
  | scr xs =>
    cases e
    unfold Rep at rp
    obtain ⟨a, vs, o, rfl, n, h1, h2⟩ := rp
    exact ⟨rfl, a, rfl, fun as2 h3 H2 x r _ => ⟨vs, .inl (.inr ⟨o, (x.keep a _ h1 n (fun _ z => by cases z)).1⟩), h2.mono x⟩⟩
  | lst xs =>
    cases e
    unfold Rep at rp
    obtain ⟨a, vs, rfl, n, h1, h2⟩ := rp
    exact ⟨rfl, a, rfl, fun as2 h3 H2 x r _ => ⟨vs, .of (x.keep a _ h1 n (fun _ z => by cases z)).1, h2.mono x⟩⟩
  | obj n =>
    have e : (match h[n]? with
      | some (.lst xs) => Out.ok (Src.mk xs [n]) h
      | _ => .bad) = .ok S h1 := e
    unfold Rep at rp
    obtain ⟨a, rfl, ea⟩ := rp
    split at e
    · rename_i xs z
      cases e
      refine ⟨rfl, a, rfl, fun as2 h3 H2 x r st => ?_⟩
      have z2 : h3[n]? = some (.lst xs) := by rw [st n (by simp)]; exact z
      obtain ⟨vs, g1, g2⟩ := r.obj z2 (x.get ea)
      exact ⟨vs, .of g1, g2⟩
    · cases e
  | non => cases e
  | bl _ => cases e
  | int _ => cases e
  | cls _ => cases e
theorem seq_goes {a : Addr} {S : Src} {as : List Addr} {h : AH} {H : Hp} (g : ∀ as2 h2 H2, Ext as H as2 H2 → RelH K as2 h2 H2 → S.still h h2 → ∃ vs, SqL K H2 a vs ∧ Reps K as2 H2 S.xs vs) : Goes2 K (Itl K a) S as h H := by
  intro as2 h2 H2 x r st
  obtain ⟨vs, g1, g2⟩ := g as2 h2 H2 x r st
  refine ⟨⟨vs, g1, by rw [g2.len]; exact Nat.le_refl _⟩, fun i p e => ?_⟩
  obtain ⟨v, e1, e2⟩ := g2.get e
  refine ⟨⟨vs, v, g1, e1⟩, fun y H3 z => ?_⟩
  obtain ⟨z1, z2⟩ := z
  subst z1
  have e3 := z2 vs g1
  rw [e1] at e3
  cases e3
  exact ⟨Ext.refl _ _, r, e2⟩
theorem tup_goes {a : Addr} {xs : List P} {vs : List V} {as : List Addr} {h : AH} {H : Hp} (t : TupAt K as H a vs) (rr : Reps K as H xs vs) : Goes2 K (Itt K a) ⟨xs, []⟩ as h H := by
  intro as2 h2 H2 x r st
  have g1 := (x.tup t).sq
  have g2 := rr.mono x
  refine ⟨⟨vs, g1, by show vs.length ≤ xs.length; rw [g2.len]; exact Nat.le_refl _⟩, fun i p e => ?_⟩
  obtain ⟨v, e1, e2⟩ := g2.get e
  refine ⟨⟨vs, v, g1, e1⟩, fun y H3 z => ?_⟩
  obtain ⟨z1, z2⟩ := z
  subst z1
  have e3 := z2 vs g1
  rw [e1] at e3
  cases e3
  exact ⟨Ext.refl _ _, r, e2⟩
theorem str_goes {y : Str} {as : List Addr} {h : AH} {H : Hp} : Goes2 K (Its y) ⟨y.cps.toList.map fun c => P.str ⟨#[c]⟩, []⟩ as h H := by
  intro as2 h2 H2 x r st
  refine ⟨by show y.cps.size ≤ (y.cps.toList.map fun c => P.str ⟨#[c]⟩).length; simp, fun i p e => ?_⟩
  have e' : (y.cps.toList.map fun c => P.str ⟨#[c]⟩)[i]? = some p := e
  rw [List.getElem?_map] at e'
  obtain ⟨c, e1, e2⟩ := Option.map_eq_some_iff.mp e'
  have hc : y.cps[i]? = some c := by rw [← Array.getElem?_toList]; exact e1
  refine ⟨(Array.getElem?_eq_some_iff.mp hc).1, fun v H3 z => ?_⟩
  obtain ⟨z1, c2, z2, z3⟩ := z
  subst z1
  rw [hc] at z2
  cases z2
  subst e2 z3
  exact ⟨Ext.refl _ _, r, by unfold Rep; rfl⟩
theorem w_seq {tg e : Expr} {m : EM} (he : PEm X W e m) : PIm X W tg e (iSeq m) := by
  refine PI_or (PI_or (t := fun s H R => iList X.K (TEm X.K W m) s H R ∨ iTup X.K (TEm X.K W m) s H R) (pi_list he) (pi_tup he) (fun _ _ _ q => q)) (pi_str he) fun s H R q => ?_
  obtain ⟨as, h, t, rh, rs, q⟩ := q
  have z := post_src (Rr := Rep X.K) (o := m t h) (f := srcSeq) q
  -- which kind
  cases em : m t h with
  | bad => rw [em] at z; exact z.elim
  | exc c p h1 => rw [em] at z; exact .inl (.inl ⟨as, h, t, rh, rs, by rw [em]; exact z⟩)
  | ok p h1 =>
    by_cases k1 : ∃ xs, p = .tup xs
    · obtain ⟨xs, rfl⟩ := k1
      refine .inl (.inr ⟨as, h, t, rh, rs, ?_⟩)
      refine z.mono fun v H1 y => ?_
      obtain ⟨as1, h2, a, S, x1, r1, e1, eo, y⟩ := y
      rw [em] at eo
      cases eo
      unfold Rep at e1
      obtain ⟨ad, vs, rfl, t1, t2⟩ := e1
      rcases y with ⟨h3, y1, y2⟩ | ⟨c, p, h3, y1, _⟩
      · cases y1
        exact ⟨ad, rfl, ⟨vs, t1.sq⟩, y2 as1 H1 _ (Ext.refl _ _) r1 (tup_goes t1 t2)⟩
      · cases y1
    · by_cases k2 : ∃ x, p = .str x
      · obtain ⟨y0, rfl⟩ := k2
        refine .inr ⟨as, h, t, rh, rs, ?_⟩
        refine z.mono fun v H1 y => ?_
        obtain ⟨as1, h2, a, S, x1, r1, e1, eo, y⟩ := y
        rw [em] at eo
        cases eo
        rcases y with ⟨h3, y1, y2⟩ | ⟨c, p, h3, y1, _⟩
        · cases y1
          exact ⟨y0, e1, y2 as1 H1 _ (Ext.refl _ _) r1 str_goes⟩
        · cases y1
      · refine .inl (.inl ⟨as, h, t, rh, rs, ?_⟩)
        refine z.mono fun v H1 y => ?_
        obtain ⟨as1, h2, a, S, x1, r1, e1, eo, y⟩ := y
        rw [em] at eo
        cases eo
        rcases y with ⟨h3, y1, y2⟩ | ⟨c, p2, h3, y1, _⟩
        · obtain ⟨eh, ad, ev, g⟩ := list_stands r1 e1 y1 (fun xs z => k1 ⟨xs, z⟩) (fun xs z => k2 ⟨xs, z⟩)
          subst eh
          obtain ⟨vs, g1, _⟩ := g as1 h3 H1 (Ext.refl _ _) r1 (fun _ _ => rfl)
          exact ⟨ad, ev, ⟨vs, g1⟩, y2 as1 H1 _ (Ext.refl _ _) r1 (seq_goes g)⟩
        · have : ∀ p : P, srcSeq p h1 ≠ .exc c p2 h3 := by
            intro p
            unfold srcSeq
            cases p <;> try (intro z; cases z)
            rename_i n
            dsimp only
            split <;> (intro z; cases z)
          exact absurd y1 (this p)
end
end AM

/-! AM13: range, enumerate, zip; for, while. -/
namespace AM
open PySem PySem.Spec PyProof.Rows L2
noncomputable section
variable {X : Cx} {W : WX} {K : PySem.W.Frag}
theorem srcSeq_exc {p : P} {h h1 : AH} {c : Str} {p2 : P} (e : srcSeq p h = .exc c p2 h1) : False := by
  unfold srcSeq at e
  cases p <;> try (cases e)
  dsimp only at e
  split at e <;> cases e
/-- range -/
def rgS (lo hi : Int) : Src := ⟨(List.range (hi - lo).toNat).map fun i => P.int (lo + (i : Nat)), []⟩
def fitI (i : Int) : Bool := decide (-(2 ^ 62) ≤ i) && decide (i < 2 ^ 62)
def srcR1 : List P → AH → Out Src := fun xs h => match xs with
  | [.int j] => if fitI j = true then .ok (rgS 0 j) h else .bad
  | _ => .bad
def srcR2 : List P → AH → Out Src := fun xs h => match xs with
  | [.int i, .int j] => if fitI i = true ∧ fitI j = true then .ok (rgS i j) h else .bad
  | _ => .bad
def iRg1 (a : LM) : IM := fun t h => (a t h).bind srcR1
def iRg2 (a : LM) : IM := fun t h => (a t h).bind srcR2
theorem rg_goes {lo hi : Int} {n : Nat} (hn : n = (hi - lo).toNat) {as : List Addr} {h : AH} {H : Hp} : Goes2 K (Itr lo n) (rgS lo hi) as h H := by
  subst hn
  intro as2 h2 H2 x r st
  refine ⟨by show (hi - lo).toNat ≤ ((List.range (hi - lo).toNat).map fun i => P.int (lo + (i : Nat))).length; simp, fun i p e => ?_⟩
  have e' : ((List.range (hi - lo).toNat).map fun i => P.int (lo + (i : Nat)))[i]? = some p := e
  rw [List.getElem?_map] at e'
  obtain ⟨c, e1, e2⟩ := Option.map_eq_some_iff.mp e'
  obtain ⟨l, e3⟩ := List.getElem?_eq_some_iff.mp e1
  rw [List.getElem_range] at e3
  rw [List.length_range] at l
  refine ⟨l, fun v H3 z => ?_⟩
  obtain ⟨z1, z2⟩ := z
  subst z1 z2 e2 e3
  exact ⟨Ext.refl _ _, r, by unfold Rep; rfl⟩
theorem fitI_ok {i : Int} (h : fitI i = true) : -(2 ^ 62) ≤ i ∧ i < 2 ^ 62 := by
  unfold fitI at h
  rw [Bool.and_eq_true] at h
  exact ⟨of_decide_eq_true h.1, of_decide_eq_true h.2⟩
theorem w_range1 {tg a : Expr} {m : LM} {p pos : Pos} (hm : X.mg "range" = none) (ha : PAm X W [a] m) (hg : Gl X "range" := by rfl) (hs : starEach [a] X.env = [(false, eval a X.env)] := by rfl) : PIm X W tg (.Call (.Name "range" p) [a] [] pos) (iRg1 m) := by
  refine PI_imp (pi_range1 hg hm ha hs) fun s H R q => ?_
  obtain ⟨as, h, t, rh, rs, q⟩ := q
  refine ⟨as, h, t, rh, rs, (post_src (Rr := Reps X.K) (o := m t h) (f := srcR1) q).mono fun vs H1 y => ?_⟩
  obtain ⟨as1, h2, ps, S, x1, r1, e1, eo, y⟩ := y
  unfold srcR1 at y
  split at y
  · split at y
    · rename_i l
      rcases y with ⟨h3, y1, y2⟩ | ⟨c, p2, h3, y1, _⟩
      · cases y1
        obtain ⟨v, rfl, rv⟩ := reps1 e1
        cases rv
        obtain ⟨l1, l2⟩ := fitI_ok l
        exact ⟨_, rfl, l1, l2, y2 as1 H1 _ (Ext.refl _ _) r1 (rg_goes (by simp))⟩
      · cases y1
    · rcases y with ⟨h3, y1, y2⟩ | ⟨c, p2, h3, y1, _⟩ <;> cases y1
  · rcases y with ⟨h3, y1, y2⟩ | ⟨c, p2, h3, y1, _⟩ <;> cases y1
theorem w_range2 {tg a b : Expr} {m : LM} {p pos : Pos} (hm : X.mg "range" = none) (ha : PAm X W [a, b] m) (hg : Gl X "range" := by rfl) (hs : starEach [a, b] X.env = [(false, eval a X.env), (false, eval b X.env)] := by rfl) (hs2 : starEach [b] X.env = [(false, eval b X.env)] := by rfl) : PIm X W tg (.Call (.Name "range" p) [a, b] [] pos) (iRg2 m) := by
  refine PI_imp (pi_range2 hg hm ha hs hs2) fun s H R q => ?_
  obtain ⟨as, h, t, rh, rs, q⟩ := q
  refine ⟨as, h, t, rh, rs, (post_src (Rr := Reps X.K) (o := m t h) (f := srcR2) q).mono fun vs H1 y => ?_⟩
  obtain ⟨as1, h2, ps, S, x1, r1, e1, eo, y⟩ := y
  unfold srcR2 at y
  split at y
  · split at y
    · rename_i l
      rcases y with ⟨h3, y1, y2⟩ | ⟨c, p2, h3, y1, _⟩
      · cases y1
        obtain ⟨v, w, rfl, rv, rw⟩ := reps2 e1
        cases rv
        cases rw
        obtain ⟨l1, l2⟩ := fitI_ok l.1
        obtain ⟨l3, l4⟩ := fitI_ok l.2
        exact ⟨_, _, rfl, ⟨l1, l2, l3, l4⟩, y2 as1 H1 _ (Ext.refl _ _) r1 (rg_goes rfl)⟩
      · cases y1
    · rcases y with ⟨h3, y1, y2⟩ | ⟨c, p2, h3, y1, _⟩ <;> cases y1
  · rcases y with ⟨h3, y1, y2⟩ | ⟨c, p2, h3, y1, _⟩ <;> cases y1

/-! ### enumerate, zip -/
def enumP (k : Nat) : List P → List P
  | [] => []
  | p :: ps => .tup [.int (k : Nat), p] :: enumP (k + 1) ps
theorem enumP_len : ∀ (ps : List P) (k : Nat), (enumP k ps).length = ps.length
  | [], _ => rfl
  | _ :: ps, k => by simp [enumP, enumP_len ps]
theorem enumP_get : ∀ (ps : List P) (k i : Nat) (q : P), (enumP k ps)[i]? = some q → ∃ p, ps[i]? = some p ∧ q = .tup [.int ((k + i : Nat) : Int), p]
  | [], _, _, _, e => by simp [enumP] at e
  | p :: ps, k, 0, q, e => by
    simp [enumP] at e
    exact ⟨p, rfl, e.symm⟩
  | p :: ps, k, i + 1, q, e => by
    obtain ⟨p2, h1, h2⟩ := enumP_get ps (k + 1) i q (by simpa [enumP] using e)
    refine ⟨p2, by simpa using h1, ?_⟩
    rw [h2, show k + 1 + i = k + (i + 1) by omega]
def zipP : List P → List P → List P
  | p :: ps, q :: qs => .tup [p, q] :: zipP ps qs
  | _, _ => []
theorem zipP_len : ∀ (ps qs : List P), (zipP ps qs).length = min ps.length qs.length
  | [], _ => by simp [zipP]
  | _ :: _, [] => by simp [zipP]
  | p :: ps, q :: qs => by simp [zipP, zipP_len ps qs]
theorem zipP_get : ∀ (ps qs : List P) (i : Nat) (r : P), (zipP ps qs)[i]? = some r → ∃ p q, ps[i]? = some p ∧ qs[i]? = some q ∧ r = .tup [p, q]
  | [], _, _, _, e => by simp [zipP] at e
  | _ :: _, [], _, _, e => by simp [zipP] at e
  | p :: ps, q :: qs, 0, r, e => by
    simp [zipP] at e
    exact ⟨p, q, rfl, rfl, e.symm⟩
  | p :: ps, q :: qs, i + 1, r, e => by
    obtain ⟨p2, q2, h1, h2, h3⟩ := zipP_get ps qs i r (by simpa [zipP] using e)
    exact ⟨p2, q2, by simpa using h1, by simpa using h2, h3⟩
/-- a new pair is laid -/
theorem laid_pair {as : List Addr} {h : AH} {H : Hp} {p q : P} {v w : V} {T : Addr} (r : RelH K as h H) (e : H T = none) (rp : Rep K as H p v) (rq : Rep K as H q w) : Ext as H as (upd H T (.tup [v, w])) ∧ RelH K as h (upd H T (.tup [v, w])) ∧ Rep K as (upd H T (.tup [v, w])) (.tup [p, q]) (.ref T) :=
  ⟨Ext.laid r e, r.laid e, rep_tup r e (reps_cons rp (reps_cons rq reps_nil))⟩
/-- a sequence as it stands from here on: a list or a tuple -/
def SeqIn (K : PySem.W.Frag) (b : Bool) (a : Addr) (xs : List P) (w : List Nat) (as : List Addr) (h : AH) (H : Hp) : Prop :=
  ∀ as2 h2 H2, Ext as H as2 H2 → RelH K as2 h2 H2 → (∀ n ∈ w, h2[n]? = h[n]?) → ∃ vs, (if b = true then SqT K H2 a vs else SqL K H2 a vs) ∧ Reps K as2 H2 xs vs
def isTup : P → Bool
  | .tup _ => true
  | _ => false
def seqW (h : AH) (p : P) : Option (List P × List Nat) := (seqOf h p).map fun xs => (xs, watch h p)
theorem seq_in {as : List Addr} {h : AH} {H : Hp} {p : P} {v : V} {xs : List P} {w : List Nat} (rh : RelH K as h H) (rp : Rep K as H p v) (e : seqW h p = some (xs, w)) : ∃ a, v = .ref a ∧ SeqIn K (isTup p) a xs w as h H := by
  unfold seqW at e
  obtain ⟨ys, e1, e2⟩ := Option.map_eq_some_iff.mp e
  cases e2
  by_cases k1 : ∃ zs, p = .tup zs
  · obtain ⟨zs, rfl⟩ := k1
    cases e1
    unfold Rep at rp
    obtain ⟨a, vs, rfl, t, q⟩ := rp
    exact ⟨a, rfl, fun as2 h2 H2 x r _ => ⟨vs, by simpa [isTup] using (x.tup t).sq, q.mono x⟩⟩
  · have hb : isTup p = false := by
      cases p <;> first | rfl | exact absurd ⟨_, rfl⟩ k1
    have k2 : ∀ y, p ≠ .str y := fun y z => by subst z; cases e1
    have hs : srcSeq p h = .ok ⟨xs, watch h p⟩ h := by
      cases p with
      | tup zs => exact absurd ⟨_, rfl⟩ k1
      | scr zs => cases e1; rfl
      | lst zs => cases e1; rfl
      | obj n =>
        have e1 : (match h[n]? with
          | some (.lst xs) => some xs
          | _ => none) = some xs := e1
        show (match h[n]? with
          | some (.lst xs) => Out.ok (Src.mk xs [n]) h
          | _ => .bad) = .ok ⟨xs, [n]⟩ h
        split at e1
        · rename_i z
          cases e1
          rfl
        · cases e1
      | str y => exact absurd rfl (k2 y)
      | non => cases e1
      | bl _ => cases e1
      | int _ => cases e1
      | cls _ => cases e1
    obtain ⟨_, a, ev, g⟩ := list_stands rh rp hs (fun ys z => k1 ⟨ys, z⟩) k2
    refine ⟨a, ev, fun as2 h2 H2 x r st => ?_⟩
    obtain ⟨vs, g1, g2⟩ := g as2 h2 H2 x r st
    exact ⟨vs, by rw [hb]; exact g1, g2⟩
theorem SeqIn.mono {b : Bool} {a : Addr} {xs : List P} {w : List Nat} {as as1 : List Addr} {h : AH} {H H1 : Hp} (g : SeqIn K b a xs w as h H) (x : Ext as H as1 H1) {h1 : AH} (e : ∀ n ∈ w, h1[n]? = h[n]?) : SeqIn K b a xs w as1 h1 H1 :=
  fun as2 h2 H2 x2 r st => g as2 h2 H2 (x.trans x2) r fun n hn => (st n hn).trans (e n hn)
theorem enum_goes {b : Bool} {a : Addr} {xs : List P} {w : List Nat} {as : List Addr} {h : AH} {H : Hp} (g : SeqIn K b a xs w as h H) : Goes2 K (if b = true then IteT K a else Ite K a) ⟨enumP 0 xs, w⟩ as h H := by
  intro as2 h2 H2 x r st
  obtain ⟨vs, g1, g2⟩ := g as2 h2 H2 x r st
  have hl : (enumP 0 xs).length = vs.length := by rw [enumP_len]; exact g2.len
  cases b with
  | true =>
    refine ⟨⟨vs, g1, hl.symm⟩, fun i p e => ?_⟩
    obtain ⟨p2, e1, rfl⟩ := enumP_get xs 0 i p e
    obtain ⟨v, e2, e3⟩ := g2.get e1
    refine ⟨⟨vs, v, g1, e2⟩, fun y H3 z => ?_⟩
    obtain ⟨T, u, rfl, z1, rfl, z2⟩ := z
    have e4 := z2 vs g1
    rw [e2] at e4
    cases e4
    exact laid_pair r z1 (show Rep K as2 H2 (.int ((0 + i : Nat) : Int)) (.int (i : Nat)) by rw [Nat.zero_add]; unfold Rep; rfl) e3
  | false =>
    refine ⟨⟨vs, g1, Nat.le_of_eq hl.symm⟩, fun i p e => ?_⟩
    obtain ⟨p2, e1, rfl⟩ := enumP_get xs 0 i p e
    obtain ⟨v, e2, e3⟩ := g2.get e1
    refine ⟨⟨vs, v, g1, e2⟩, fun y H3 z => ?_⟩
    obtain ⟨T, u, rfl, z1, rfl, z2⟩ := z
    have e4 := z2 vs g1
    rw [e2] at e4
    cases e4
    exact laid_pair r z1 (show Rep K as2 H2 (.int ((0 + i : Nat) : Int)) (.int (i : Nat)) by rw [Nat.zero_add]; unfold Rep; rfl) e3
def srcEn : List P → AH → Out Src := fun xs h => match xs with
  | [p] => (match seqW h p with
    | some (xs, w) => .ok ⟨enumP 0 xs, w⟩ h
    | none => .bad)
  | _ => .bad
def iEn (a : LM) : IM := fun t h => (a t h).bind srcEn
theorem w_enum {e : Expr} {m : LM} {p pos tpos : Pos} {elts : List Expr} {kk : Nat} (hm : X.mg "enumerate" = none) (ha : PAm X W [e] m) (hg : Gl X "enumerate" := by rfl) (hs : starEach [e] X.env = [(false, eval e X.env)] := by rfl) :
    PIm X W (.Tuple elts kk tpos) (.Call (.Name "enumerate" p) [e] [] pos) (iEn m) := by
  refine PI_or (pi_enum hg hm ha hs) (pi_enumT hg hm ha hs) fun s H R q => ?_
  obtain ⟨as, h, t, rh, rs, q⟩ := q
  have z := post_src (Rr := Reps X.K) (o := m t h) (f := srcEn) q
  cases em : m t h with
  | bad => rw [em] at z; exact z.elim
  | exc c p h1 => rw [em] at z; exact .inl ⟨as, h, t, rh, rs, by rw [em]; exact z⟩
  | ok ps h1 =>
    by_cases hk : ∃ p, ps = [p] ∧ isTup p = true
    · obtain ⟨p, rfl, hp⟩ := hk
      refine .inr ⟨as, h, t, rh, rs, z.mono fun vs H1 y => ?_⟩
      obtain ⟨as1, h2, ps2, S, x1, r1, e1, eo, y⟩ := y
      rw [em] at eo
      cases eo
      obtain ⟨v, rfl, rv⟩ := reps1 e1
      unfold srcEn at y
      dsimp only at y
      split at y
      · rename_i xs w ew
        obtain ⟨a, rfl, g⟩ := seq_in r1 rv ew
        rcases y with ⟨h3, y1, y2⟩ | ⟨c, p2, h3, y1, _⟩
        · cases y1
          obtain ⟨vs2, g1, _⟩ := g as1 h1 H1 (Ext.refl _ _) r1 (fun _ _ => rfl)
          rw [hp] at g1 g
          exact ⟨a, vs2, rfl, g1, y2 as1 H1 _ (Ext.refl _ _) r1 (enum_goes g)⟩
        · cases y1
      · rcases y with ⟨h3, y1, y2⟩ | ⟨c, p2, h3, y1, _⟩ <;> cases y1
    · refine .inl ⟨as, h, t, rh, rs, z.mono fun vs H1 y => ?_⟩
      obtain ⟨as1, h2, ps2, S, x1, r1, e1, eo, y⟩ := y
      rw [em] at eo
      cases eo
      unfold srcEn at y
      split at y
      · rename_i p
        have hb : isTup p = false := by
          cases hb : isTup p with
          | false => rfl
          | true => exact absurd ⟨p, rfl, hb⟩ hk
        obtain ⟨v, rfl, rv⟩ := reps1 e1
        split at y
        · rename_i xs w ew
          obtain ⟨a, rfl, g⟩ := seq_in r1 rv ew
          rcases y with ⟨h3, y1, y2⟩ | ⟨c, p2, h3, y1, _⟩
          · cases y1
            obtain ⟨vs2, g1, _⟩ := g as1 h1 H1 (Ext.refl _ _) r1 (fun _ _ => rfl)
            rw [hb] at g1 g
            exact ⟨a, vs2, rfl, g1, y2 as1 H1 _ (Ext.refl _ _) r1 (enum_goes g)⟩
          · cases y1
        · rcases y with ⟨h3, y1, y2⟩ | ⟨c, p2, h3, y1, _⟩ <;> cases y1
      · rcases y with ⟨h3, y1, y2⟩ | ⟨c, p2, h3, y1, _⟩ <;> cases y1
/-- zip of two lists or two tuples -/
def srcZp : List P → AH → Out Src := fun xs h => match xs with
  | [p, q] => if isTup p = isTup q then (match seqW h p, seqW h q with
    | some (xs, w), some (ys, w2) => .ok ⟨zipP xs ys, w ++ w2⟩ h
    | _, _ => .bad) else .bad
  | _ => .bad
def iZp (a : LM) : IM := fun t h => (a t h).bind srcZp
theorem zip_goes {b : Bool} {a c : Addr} {xs ys : List P} {w w2 : List Nat} {as : List Addr} {h : AH} {H : Hp} (g : SeqIn K b a xs w as h H) (g' : SeqIn K b c ys w2 as h H) : Goes2 K (if b = true then RZ.ItzT K a c else Itz K a c) ⟨zipP xs ys, w ++ w2⟩ as h H := by
  intro as2 h2 H2 x r st
  obtain ⟨vs, g1, g2⟩ := g as2 h2 H2 x r (fun n hn => st n (List.mem_append_left _ hn))
  obtain ⟨us, g3, g4⟩ := g' as2 h2 H2 x r (fun n hn => st n (List.mem_append_right _ hn))
  have hl : (zipP xs ys).length = min vs.length us.length := by rw [zipP_len, g2.len, g4.len]
  have hm : vs.length ≤ (zipP xs ys).length ∨ us.length ≤ (zipP xs ys).length := by omega
  cases b with
  | true =>
    refine ⟨⟨vs, us, g1, g3, hm⟩, fun i p e => ?_⟩
    obtain ⟨p2, q2, e1, e2, rfl⟩ := zipP_get xs ys i p e
    obtain ⟨v, e3, e4⟩ := g2.get e1
    obtain ⟨u, e5, e6⟩ := g4.get e2
    refine ⟨⟨vs, us, v, u, g1, g3, e3, e5⟩, fun y H3 z => ?_⟩
    obtain ⟨T, v2, u2, rfl, z1, rfl, z2, z3⟩ := z
    have f1 := z2 vs g1
    have f2 := z3 us g3
    rw [e3] at f1
    rw [e5] at f2
    cases f1
    cases f2
    exact laid_pair r z1 e4 e6
  | false =>
    refine ⟨⟨vs, us, g1, g3, hm⟩, fun i p e => ?_⟩
    obtain ⟨p2, q2, e1, e2, rfl⟩ := zipP_get xs ys i p e
    obtain ⟨v, e3, e4⟩ := g2.get e1
    obtain ⟨u, e5, e6⟩ := g4.get e2
    refine ⟨⟨vs, us, v, u, g1, g3, e3, e5⟩, fun y H3 z => ?_⟩
    obtain ⟨T, v2, u2, rfl, z1, rfl, z2, z3⟩ := z
    have f1 := z2 vs g1
    have f2 := z3 us g3
    rw [e3] at f1
    rw [e5] at f2
    cases f1
    cases f2
    exact laid_pair r z1 e4 e6
theorem w_zip {e e2 : Expr} {m : LM} {p pos tpos : Pos} {elts : List Expr} {kk : Nat} (hm : X.mg "zip" = none) (ha : PAm X W [e, e2] m) (hg : Gl X "zip" := by rfl)
    (hs : starEach [e, e2] X.env = (false, eval e X.env) :: starEach [e2] X.env := by rfl) (hpl : (backTo pos (starEach [e2] X.env)).any (·.1) = false := by rfl) :
    PIm X W (.Tuple elts kk tpos) (.Call (.Name "zip" p) [e, e2] [] pos) (iZp m) := by
  refine PI_imp (RZ.pi_zipA hg hm ha hs hpl) fun s H R q => ?_
  obtain ⟨as, h, t, rh, rs, q⟩ := q
  refine ⟨as, h, t, rh, rs, (post_src (Rr := Reps X.K) (o := m t h) (f := srcZp) q).mono fun vs H1 y => ?_⟩
  obtain ⟨as1, h2, ps2, S, x1, r1, e1, eo, y⟩ := y
  unfold srcZp at y
  split at y
  · rename_i p q
    obtain ⟨v, u, rfl, rv, ru⟩ := reps2 e1
    split at y
    · rename_i hb
      split at y
      · rename_i xs w ys w2 e3 e4
        rcases y with ⟨h3, y1, y2⟩ | ⟨c, p2, h3, y1, _⟩
        · cases y1
          obtain ⟨a, rfl, g⟩ := seq_in r1 rv e3
          obtain ⟨c, rfl, g'⟩ := seq_in r1 ru e4
          obtain ⟨vs1, g1, _⟩ := g as1 h2 H1 (Ext.refl _ _) r1 (fun _ _ => rfl)
          obtain ⟨us1, g3, _⟩ := g' as1 h2 H1 (Ext.refl _ _) r1 (fun _ _ => rfl)
          rw [← hb] at g3 g'
          have fin := y2 as1 H1 _ (Ext.refl _ _) r1 (zip_goes g g')
          refine ⟨a, c, vs1, us1, rfl, ?_⟩
          cases k : isTup p with
          | true =>
            rw [k] at g1 g3 fin
            exact .inr ⟨g1, g3, fin⟩
          | false =>
            rw [k] at g1 g3 fin
            exact .inl ⟨g1, g3, fin⟩
        · cases y1
      · rcases y with ⟨h3, y1, y2⟩ | ⟨c, p2, h3, y1, _⟩ <;> cases y1
    · rcases y with ⟨h3, y1, y2⟩ | ⟨c, p2, h3, y1, _⟩ <;> cases y1
  · rcases y with ⟨h3, y1, y2⟩ | ⟨c, p2, h3, y1, _⟩ <;> cases y1

/-! ### for -/
open Classical in
def forP (S : Src) (h0 : AH) (g : GM) (b : SM) : List P → AM.Loc → AH → OutS
  | [], t, h => if S.still h0 h then .nx t h else .bad
  | p :: ps, t, h => if S.still h0 h then (match g p t h with
    | some th => (match b th.1 th.2 with
      | .nx t2 h2 => forP S h0 g b ps t2 h2
      | .ct t2 h2 => forP S h0 g b ps t2 h2
      | .bk t2 h2 => .nx t2 h2
      | o => o)
    | none => .bad) else .bad
def sFor (i : IM) (g : GM) (b : SM) : SM := fun t h => (i t h).toS t fun S h1 => forP S h1 g b S.xs t h1
theorem w_for {tg iter : Expr} {body : List Stmt} {i : IM} {g : GM} {b : SM} {pos : Pos} (hp : PassesOwn (model X.prog X.w) X.A X.env X.xe) (hc : X.calm = true) (hi : PIm X W tg iter i) (hg : PGm X tg g) (hb : PSsm X W body b)
    (hs : ∀ x, foldedSetIterable iter X.env x = pure x := by intro _; rfl) : PSm X W (.For tg iter body [] pos) (sFor i g b) := by
  refine PS_imp (ps_for hp hc hi hg hb hs) fun D s H q => ?_
  obtain ⟨as, h, t, rh, rs, q⟩ := q
  refine ⟨as, h, t, rh, rs, ?_⟩
  unfold sFor at q
  cases ei : i t h with
  | bad => rw [ei] at q; exact q
  | exc c p h1 => rw [ei] at q; exact fun as1 H1 d w x r e1 e2 => q as1 H1 s d w x r (rs.mono x) e1 e2
  | ok S h1 =>
    rw [ei] at q
    intro as1 H1 J x1 r1 G
    have q1 : PostS X.K W as1 H1 (forP S h1 g b S.xs t h1) D := PostS.ext q x1
    refine ⟨fun k m s2 H2 => k + m = S.xs.length ∧ ∃ as2 h2 t2, Ext as1 H1 as2 H2 ∧ RelH X.K as2 h2 H2 ∧ RepS X.K as2 H2 t2 s2 ∧ PostS X.K W as2 H2 (forP S h1 g b (S.xs.drop k) t2 h2) D, ⟨S.xs.length, by simp, as1, h1, t, Ext.refl _ _, r1, rs.mono x1, q1⟩, ?_⟩
    rintro k m s2 H2 ⟨hk, as2, h2, t2, x2, r2, e2, q2⟩
    by_cases hlt : k < S.xs.length
    · have ed : S.xs.drop k = S.xs[k] :: S.xs.drop (k + 1) := List.drop_eq_getElem_cons hlt
      rw [ed] at q2
      unfold forP at q2
      split at q2
      · rename_i st
        obtain ⟨_, go⟩ := G as2 h2 H2 x2 r2 st
        obtain ⟨go1, go2⟩ := go k S.xs[k] (by simp [hlt])
        refine .inr ⟨go1, fun s3 H3 => ∃ as3 h3 t3, Ext as1 H1 as3 H3 ∧ RelH X.K as3 h3 H3 ∧ RepS X.K as3 H3 t3 s3 ∧ PostS X.K W as3 H3 (forP S h1 g b (S.xs.drop (k + 1)) t3 h3) D, ?_, ?_⟩
        · rintro s3 H3 ⟨as3, h3, t3, x3, r3, e3, q3⟩
          exact ⟨m - 1, by omega, by omega, as3, h3, t3, x3, r3, e3, q3⟩
        · intro x H3 yl
          obtain ⟨x3, r3, rx⟩ := go2 x H3 yl
          refine ⟨as2, h2, t2, _, r3, e2.mono x3, rx, ?_⟩
          cases eg : g S.xs[k] t2 h2 with
          | none => rw [eg] at q2; exact q2
          | some th =>
            rw [eg] at q2
            intro as4 H4 s4 x4 r4 e4
            refine ⟨as4, th.2, th.1, r4, e4, ?_⟩
            have x24 := x3.trans x4
            dsimp only at q2
            cases eb : b th.1 th.2 with
            | bad => rw [eb] at q2; exact q2
            | nx t5 h5 =>
              rw [eb] at q2
              exact fun as5 H5 s5 x5 r5 e5 => ⟨as5, h5, t5, x2.trans (x24.trans x5), r5, e5, PostS.ext q2 (x24.trans x5)⟩
            | ct t5 h5 =>
              rw [eb] at q2
              exact fun as5 H5 s5 x5 r5 e5 => ⟨as5, h5, t5, x2.trans (x24.trans x5), r5, e5, PostS.ext q2 (x24.trans x5)⟩
            | bk t5 h5 => rw [eb] at q2; exact fun as5 H5 s5 x5 r5 e5 => q2 as5 H5 s5 (x24.trans x5) r5 e5
            | rt p h5 => rw [eb] at q2; exact fun as5 H5 s5 x5 r5 e5 => q2 as5 H5 s5 (x24.trans x5) r5 e5
            | exc c p t5 h5 => rw [eb] at q2; exact fun as5 H5 s5 d w x5 r5 e5 e6 e7 => q2 as5 H5 s5 d w (x24.trans x5) r5 e5 e6 e7
      · exact q2.elim
    · have ek : k = S.xs.length := by omega
      subst ek
      rw [List.drop_length] at q2
      unfold forP at q2
      split at q2
      · rename_i st
        obtain ⟨stop, _⟩ := G as2 h2 H2 x2 r2 st
        exact .inl ⟨stop, q2 as2 H2 s2 (Ext.refl _ _) r2 e2⟩
      · exact q2.elim
end
end AM

/-! AM14: while, a, b = x, y, list comprehensions. -/
namespace AM
open PySem PySem.Spec PyProof.Rows L2
noncomputable section
variable {X : Cx} {W : WX} {K : PySem.W.Frag}

/-! ### while -/
def OutS.turn (o : OutS) (f : AM.Loc → AH → OutS) : OutS := match o with
  | .nx t h => f t h
  | .ct t h => f t h
  | .bk t h => .nx t h
  | o => o
def whN (c : TM) (b : SM) : Nat → SM
  | 0, _, _ => .bad
  | n + 1, t, h => (c t h).toS t fun k h1 => if k = true then (b t h1).turn (whN c b n) else .nx t h1
theorem OutS.turn_mono {o : OutS} {f g : AM.Loc → AH → OutS} (hf : ∀ t h, f t h ≠ .bad → g t h = f t h) (n : o.turn f ≠ .bad) : o.turn g = o.turn f := by
  cases o with
  | nx t h => exact hf t h n
  | ct t h => exact hf t h n
  | bk t h => rfl
  | rt p h => rfl
  | exc c p t h => rfl
  | bad => rfl
theorem whN_mono {c : TM} {b : SM} : ∀ {n m : Nat} {t : AM.Loc} {h : AH}, whN c b n t h ≠ .bad → n ≤ m → whN c b m t h = whN c b n t h
  | 0, _, _, _, hn, _ => absurd rfl hn
  | n + 1, 0, _, _, _, l => absurd l (by omega)
  | n + 1, m + 1, t, h, hn, l => by
    unfold whN at hn ⊢
    cases e : c t h with
    | bad => rfl
    | exc _ _ _ => rfl
    | ok k h1 =>
      rw [e] at hn
      cases k with
      | false => rfl
      | true => exact OutS.turn_mono (fun t2 h2 z => whN_mono z (by omega)) hn
open Classical in
def sWhile (c : TM) (b : SM) : SM := fun t h => if x : ∃ n, whN c b n t h ≠ .bad then whN c b (choose x) t h else .bad
theorem sWhile_at {c : TM} {b : SM} {n : Nat} {t : AM.Loc} {h : AH} (hn : whN c b n t h ≠ .bad) : sWhile c b t h = whN c b n t h := by
  unfold sWhile
  have x : ∃ n, whN c b n t h ≠ .bad := ⟨n, hn⟩
  rw [dif_pos x]
  have y := Classical.choose_spec x
  by_cases l : n ≤ Classical.choose x
  · exact whN_mono hn l
  · exact (whN_mono y (by omega)).symm
theorem w_while {c : Expr} {body : List Stmt} {mc : TM} {mb : SM} {pos : Pos} (hp : PassesOwn (model X.prog X.w) X.A X.env X.xe) (hc : PTm X W c mc) (hb : PSsm X W body mb) : PSm X W (.While c body [] pos) (sWhile mc mb) := by
  refine PS_imp (ps_while hp hc hb) fun D s H q => ?_
  obtain ⟨as, h, t, rh, rs, q⟩ := q
  have hx : ∃ n, whN mc mb n t h ≠ .bad := by
    apply Classical.byContradiction
    intro z
    unfold sWhile at q
    rw [dif_neg z] at q
    exact q
  obtain ⟨n, hn⟩ := hx
  rw [sWhile_at hn] at q
  refine ⟨fun m s2 H2 => ∃ as2 h2 t2, RelH X.K as2 h2 H2 ∧ RepS X.K as2 H2 t2 s2 ∧ PostS X.K W as2 H2 (whN mc mb m t2 h2) D, ⟨n, as, h, t, rh, rs, q⟩, ?_⟩
  rintro m s2 H2 ⟨as2, h2, t2, r2, e2, q2⟩
  cases m with
  | zero => exact q2.elim
  | succ m =>
    unfold whN at q2
    refine ⟨as2, h2, t2, r2, e2, (PostS.toS (R := fun _ _ a b => a = b) e2 q2).mono fun k H3 z => ?_⟩
    obtain ⟨as3, h3, a, x3, r3, e3, q3⟩ := z
    subst e3
    cases a with
    | false => exact q3 as3 H3 s2 (Ext.refl _ _) r3 (e2.mono x3)
    | true =>
      refine ⟨fun s4 H4 => ∃ as4 h4 t4, RelH X.K as4 h4 H4 ∧ RepS X.K as4 H4 t4 s4 ∧ PostS X.K W as4 H4 (whN mc mb m t4 h4) D, fun s4 H4 z => ⟨m, by omega, z⟩, as3, h3, t2, r3, e2.mono x3, ?_⟩
      have q3 : PostS X.K W as3 H3 ((mb t2 h3).turn (whN mc mb m)) D := q3
      cases eb : mb t2 h3 with
      | bad => rw [eb] at q3; exact q3
      | nx t5 h5 => rw [eb] at q3; exact fun as5 H5 s5 x5 r5 e5 => ⟨as5, h5, t5, r5, e5, PostS.ext q3 x5⟩
      | ct t5 h5 => rw [eb] at q3; exact fun as5 H5 s5 x5 r5 e5 => ⟨as5, h5, t5, r5, e5, PostS.ext q3 x5⟩
      | bk t5 h5 => rw [eb] at q3; exact fun as5 H5 s5 x5 r5 e5 => q3 as5 H5 s5 x5 r5 e5
      | rt p h5 => rw [eb] at q3; exact fun as5 H5 s5 x5 r5 e5 => q3 as5 H5 s5 x5 r5 e5
      | exc c p t5 h5 => rw [eb] at q3; exact fun as5 H5 s5 d w x5 r5 e5 e6 e7 => q3 as5 H5 s5 d w x5 r5 e5 e6 e7

/-! ### a, b = x, y -/
def sPar (i j : Nat) (a : LM) : SM := fun t h => (a t h).toS t fun xs h1 => match xs with
  | [x, y] => .nx ((t.set i (some x)).set j (some y)) h1
  | _ => .bad
theorem w_par {i j : Nat} {x y : Str} {a b : Expr} {m : LM} {px py pt pos : Pos} {kt k2 pt2} (hc : X.calm = true) (hN : X.N.Nodup) (ha : PAm X W [a, b] m) (hi : X.N[i]? = some x := by rfl) (hj : X.N[j]? = some y := by rfl) (hij : i ≠ j := by decide)
    (hx : X.env.scope.names.lookup x = some .local := by rfl) (hy : X.env.scope.names.lookup y = some .local := by rfl) (hw : swappedStores [.Tuple [.Name x px, .Name y py] kt pt] (.Tuple [a, b] k2 pt2) X.env = pure (some [x, y]) := by rfl)
    (hs : swapsWithSole [.Tuple [.Name x px, .Name y py] kt pt] (.Tuple [a, b] k2 pt2) pos.line X.env = pure false := by rfl) :
    PSm X W (.Assign [.Tuple [.Name x px, .Name y py] kt pt] (.Tuple [a, b] k2 pt2) pos) (sPar i j m) := by
  refine PS_imp (ps_par hc hN hi hj hij hx hy ha hw hs) fun D s H q => ?_
  obtain ⟨as, h, t, rh, rs, q⟩ := q
  refine ⟨as, h, t, rh, rs, (PostS.toS (R := Reps X.K) rs q).mono fun vs H1 z => ?_⟩
  obtain ⟨as1, h1, ps, x1, r1, e1, q1⟩ := z
  split at q1
  · obtain ⟨v, w, rfl, rv, rw⟩ := reps2 e1
    exact ⟨v, w, rfl, q1 as1 H1 _ (Ext.refl _ _) r1 (((rs.mono x1).set rv i).set rw j)⟩
  · exact q1.elim
theorem reps3 {as : List Addr} {H : Hp} {p q r : P} {vs : List V} (z : Reps K as H [p, q, r] vs) : ∃ u v w, vs = [u, v, w] ∧ Rep K as H p u ∧ Rep K as H q v ∧ Rep K as H r w := by
  obtain ⟨v, r', rfl, h1, h2⟩ := reps_inv z
  obtain ⟨w, x, rfl, h3, h4⟩ := reps2 h2
  exact ⟨v, w, x, rfl, h1, h3, h4⟩
def sPar3 (i j l : Nat) (a : LM) : SM := fun t h => (a t h).toS t fun xs h1 => match xs with
  | [x, y, z] => .nx (((t.set i (some x)).set j (some y)).set l (some z)) h1
  | _ => .bad
theorem w_par3 {i j l : Nat} {x y z : Str} {a b c : Expr} {m : LM} {px py pz pt pos : Pos} {kt k2 pt2} (hc : X.calm = true) (hN : X.N.Nodup) (ha : PAm X W [a, b, c] m) (hi : X.N[i]? = some x := by rfl) (hj : X.N[j]? = some y := by rfl) (hl : X.N[l]? = some z := by rfl) (hij : i ≠ j := by decide) (hil : i ≠ l := by decide) (hjl : j ≠ l := by decide)
    (hx : X.env.scope.names.lookup x = some .local := by rfl) (hy : X.env.scope.names.lookup y = some .local := by rfl) (hz : X.env.scope.names.lookup z = some .local := by rfl)
    (hw : swappedStores [.Tuple [.Name x px, .Name y py, .Name z pz] kt pt] (.Tuple [a, b, c] k2 pt2) X.env = pure (some [x, y, z]) := by rfl)
    (hs : swapsWithSole [.Tuple [.Name x px, .Name y py, .Name z pz] kt pt] (.Tuple [a, b, c] k2 pt2) pos.line X.env = pure false := by rfl) :
    PSm X W (.Assign [.Tuple [.Name x px, .Name y py, .Name z pz] kt pt] (.Tuple [a, b, c] k2 pt2) pos) (sPar3 i j l m) := by
  refine PS_imp (ps_par3 hc hN hi hj hl hij hil hjl hx hy hz ha hw hs) fun D s H q => ?_
  obtain ⟨as, h, t, rh, rs, q⟩ := q
  refine ⟨as, h, t, rh, rs, (PostS.toS (R := Reps X.K) rs q).mono fun vs H1 y => ?_⟩
  obtain ⟨as1, h1, ps, x1, r1, e1, q1⟩ := y
  split at q1
  · obtain ⟨u, v, w, rfl, ru, rv, rw⟩ := reps3 e1
    exact ⟨u, v, w, rfl, q1 as1 H1 _ (Ext.refl _ _) r1 ((((rs.mono x1).set ru i).set rv j).set rw l)⟩
  · exact q1.elim
end
end AM

/-! AM15: list comprehensions. -/
namespace AM
open PySem PySem.Spec PyProof.Rows L2
noncomputable section
variable {X : Cx} {W : WX} {K : PySem.W.Frag}

/-! ### targets that store into some slots alone -/
/-- nothing but slots of vs differs -/
def Same (vs : List Nat) (s s' : L2.St) : Prop := s'.length = s.length ∧ ∀ i, i ∉ vs → s'[i]? = s[i]?
theorem Same.rfl' {vs : List Nat} {s : L2.St} : Same vs s s := ⟨rfl, fun _ _ => rfl⟩
theorem Same.tr {vs : List Nat} {a b c : L2.St} (x : Same vs a b) (y : Same vs b c) : Same vs a c := ⟨y.1.trans x.1, fun i h => (y.2 i h).trans (x.2 i h)⟩
theorem set_same {vs : List Nat} {s : L2.St} {i : Nat} {v : Option V} (h : i ∈ vs) : Same vs s (s.set i v) := ⟨by simp, fun j hj => List.getElem?_set_ne fun (e : i = j) => hj (by rw [← e]; exact h)⟩
theorem wipe_in {σ : L2.St} {i : Nat} : ∀ {vs : List Nat}, i ∈ vs → i < σ.length → (wipe σ vs)[i]? = some none
  | [], h, _ => by cases h
  | v :: vs, h, l => by
    unfold wipe
    by_cases e : v = i
    · subst e
      exact List.getElem?_set_self (by rw [wipe_length]; exact l)
    · rw [List.getElem?_set_ne e]
      refine wipe_in ?_ l
      rcases List.mem_cons.mp h with z | z
      · exact absurd z.symm e
      · exact z
theorem wipe_same {vs : List Nat} {s s' : L2.St} (x : Same vs s s') : wipe s' vs = wipe s vs := by
  apply List.ext_getElem?
  intro i
  by_cases h : i ∈ vs
  · by_cases l : i < s.length
    · rw [wipe_in h l, wipe_in h (by rw [x.1]; exact l)]
    · rw [List.getElem?_eq_none (by rw [wipe_length, x.1]; omega), List.getElem?_eq_none (by rw [wipe_length]; omega)]
  · rw [wipe_out h, wipe_out h]
    exact x.2 i h
theorem wipe_wipe {σ : L2.St} {vs : List Nat} : wipe (wipe σ vs) vs = wipe σ vs := wipe_same ⟨wipe_length _ _, fun i h => wipe_out h⟩
def TGw (K : PySem.W.Frag) (vs : List Nat) (m : GM) : TG := fun v s H Q => ∃ as h t p, RelH K as h H ∧ RepS K as H t s ∧ Rep K as H p v ∧ PostG K as H (m p t h) fun s' H' => Same vs s s' → Q s' H'
abbrev PGw (X : Cx) (vs : List Nat) (tg : Expr) (m : GM) : Prop := PG X tg (TGw X.K vs m)
def TGws (K : PySem.W.Frag) (vs : List Nat) (m : GMs) : TGs := fun us s H Q => ∃ as h t ps, RelH K as h H ∧ RepS K as H t s ∧ Reps K as H ps us ∧ PostG K as H (m ps t h) fun s' H' => Same vs s s' → Q s' H'
abbrev PGws (X : Cx) (vs : List Nat) (tg : List Expr) (m : GMs) : Prop := PGs X tg (TGws X.K vs m)
theorem wgw_name (i : Nat) {vs : List Nat} {x : Str} {pos : Pos} (hN : X.N.Nodup) (hi : X.N[i]? = some x := by rfl) (hv : i ∈ vs := by decide) (hx : L2.Loc X.env.scope x := by first | exact Or.inl rfl | exact Or.inr rfl) (hf : X.fn x = true ∨ X.env.scope.names.lookup x = some .local := by first | exact .inl rfl | exact .inr rfl | assumption) : PGw X vs (.Name x pos) (gN i) := by
  refine PG_imp (pg_name (i := i) hN hi hx hf) fun v s H Q q => ?_
  obtain ⟨as, h, t, p, rh, rs, rp, q⟩ := q
  exact q as H _ (Ext.refl _ _) rh (rs.set rp i) (set_same hv)
theorem wgws_nil {vs : List Nat} : PGws X vs [] gsN := PGs_imp pgs_nil fun us s H Q q => by
  obtain ⟨as, h, t, ps, rh, rs, rp, q⟩ := q
  cases ps with
  | nil => exact ⟨reps_inv0 rp, q as H s (Ext.refl _ _) rh rs Same.rfl'⟩
  | cons _ _ => exact q.elim
theorem wgws_cons {vs : List Nat} {e : Expr} {es : List Expr} {g : GM} {r : GMs} (h1 : PGw X vs e g) (h2 : PGws X vs es r) (hs : (assignEach (e :: es) X.env).map (·.2) = assign e X.env :: (assignEach es X.env).map (·.2) := by rfl) : PGws X vs (e :: es) (gsC g r) := by
  refine PGs_imp (pgs_cons h1 h2 hs) fun us s H Q q => ?_
  obtain ⟨as, h, t, ps, rh, rs, rp, q⟩ := q
  cases ps with
  | nil => exact q.elim
  | cons p ps =>
    obtain ⟨v, vr, rfl, r1, r2⟩ := reps_inv rp
    refine ⟨v, vr, rfl, as, h, t, p, rh, rs, r1, (PostG.bind (o := g p t h) q).mono fun s' H' z => ?_⟩
    obtain ⟨as1, h1, t1, x1, r1', e1, q3⟩ := z
    intro sm
    exact ⟨as1, h1, t1, ps, r1', e1, r2.mono x1, q3.mono fun s3 H3 y sm2 => y (sm.tr sm2)⟩
theorem wgw_tup {vs : List Nat} {es : List Expr} {k : Nat} {pos : Pos} {r : GMs} {n : Nat} (hc : X.calm = true) (hr : PGws X vs es r) (hn : (assignEach es X.env).length = n := by rfl) (hst : (assignEach es X.env).findIdx? (·.1) = none := by rfl) : PGw X vs (.Tuple es k pos) (gT n r) := by
  refine PG_imp (pg_tup hc hr hn hst) fun v s H Q q => ?_
  obtain ⟨as, h, t, p, rh, rs, rp, q⟩ := q
  unfold gT at q
  split at q
  · rename_i xs
    unfold Rep at rp
    obtain ⟨a, us, e1, e2, e3⟩ := rp
    split at q
    · rename_i l
      exact ⟨a, us, e1, e2.sq, by rw [← e3.len, l], as, h, t, xs, rh, rs, e3, q⟩
    · exact q.elim
  · exact q.elim

/-! ### tests -/
def tY : TM := fun _ h => .ok true h
abbrev PTsm (X : Cx) (W : WX) (ifs : List Expr) (m : TM) : Prop := PTs X ifs (TTm X.K W m)
theorem wts_nil : PTsm X W [] tY := ⟨fun pins s σ H Q I q => by
  obtain ⟨as, h, t, rh, rs, q⟩ := q
  exact pts_nil.run pins s σ H Q I (Post.done (R := fun _ _ a b => a = b) q (Ext.refl _ _) rh rfl)⟩
theorem wts_one {c : Expr} {m : TM} (h : PTm X W c m) : PTsm X W [c] m := pts_one h

/-! ### the list that is made -/
def wipeL (t : AM.Loc) : List Nat → AM.Loc
  | [] => t
  | v :: vs => (wipeL t vs).set v none
theorem wipeL_length (t : AM.Loc) : ∀ vs : List Nat, (wipeL t vs).length = t.length
  | [] => rfl
  | v :: vs => by unfold wipeL; rw [List.length_set, wipeL_length t vs]
theorem wipeL_some {t : AM.Loc} {i : Nat} {p : P} : ∀ {vs : List Nat}, (wipeL t vs)[i]? = some (some p) → t[i]? = some (some p) ∧ i ∉ vs
  | [], h => ⟨h, by simp⟩
  | v :: vs, h => by
    unfold wipeL at h
    by_cases hi : v = i
    · subst hi
      by_cases hv : v < (wipeL t vs).length
      · rw [List.getElem?_set_self hv] at h; cases h
      · rw [List.getElem?_eq_none (by simpa using hv)] at h; cases h
    · rw [List.getElem?_set_ne hi] at h
      obtain ⟨h1, h2⟩ := wipeL_some h
      exact ⟨h1, by simp only [List.mem_cons, not_or]; exact ⟨fun e => hi e.symm, h2⟩⟩
theorem RepS.wipe {as : List Addr} {H : Hp} {t : AM.Loc} {s : L2.St} (r : RepS K as H t s) (vs : List Nat) : RepS K as H (wipeL t vs) (L2.wipe s vs) := by
  refine ⟨by rw [wipeL_length, wipe_length]; exact r.1, fun i p e => ?_⟩
  obtain ⟨e1, e2⟩ := wipeL_some e
  obtain ⟨v, e3, e4⟩ := r.2 i p e1
  exact ⟨v, by rw [wipe_out e2]; exact e3, e4⟩
/-- after an item's reckoning: the list stands, the objects ahead of it too -/
def LcOk (n : Nat) (acc : List P) (h h4 : AH) : Prop := h4[n]? = some (.lst acc) ∧ Shut (h ++ [.lst acc]) h4
open Classical in
def lcF (S : Src) (h1 : AH) (g : GM) (c : TM) (e : EM) (t : AM.Loc) : List P → List P → AH → Out P
  | [], acc, h => if S.still h1 (h ++ [.lst acc]) ∧ Shut h1 (h ++ [.lst acc]) then .ok (.lst acc) h else .bad
  | p :: ps, acc, h => if S.still h1 (h ++ [.lst acc]) then (match g p t (h ++ [.lst acc]) with
    | some th => (match c th.1 th.2 with
      | .ok true h3 => (match e th.1 h3 with
        | .ok x h4 => if LcOk h1.length acc h h4 ∧ clean h1.length x = true ∧ acc.length < 16777216 then lcF S h1 g c e t ps (acc ++ [x]) (h4.take h1.length) else .bad
        | _ => .bad)
      | .ok false h3 => if LcOk h1.length acc h h3 then lcF S h1 g c e t ps acc (h3.take h1.length) else .bad
      | _ => .bad)
    | none => .bad) else .bad
def eLc (i : IM) (vs : List Nat) (g : GM) (c : TM) (e : EM) : EM := fun t h => (i t h).bind fun S h1 => lcF S h1 g c e (wipeL t vs) S.xs [] h1
mutual
theorem clean_mono {n m : Nat} (l : n ≤ m) : ∀ {p : P}, clean n p = true → clean m p = true
  | .non, _ => rfl
  | .bl _, _ => rfl
  | .int _, _ => rfl
  | .str _, _ => rfl
  | .cls _, _ => rfl
  | .tup xs, h => cleans_mono l (ps := xs) h
  | .lst xs, h => cleans_mono l (ps := xs) h
  | .scr xs, h => cleans_mono l (ps := xs) h
  | .obj k, h => by
    have h : decide (k < n) = true := h
    exact decide_eq_true (Nat.lt_of_lt_of_le (of_decide_eq_true h) l)
theorem cleans_mono {n m : Nat} (l : n ≤ m) : ∀ {ps : List P}, cleans n ps = true → cleans m ps = true
  | [], _ => rfl
  | p :: ps, h => by
    have h : (clean n p && cleans n ps) = true := h
    rw [Bool.and_eq_true] at h
    show (clean m p && cleans m ps) = true
    rw [clean_mono l h.1, cleans_mono l h.2]
    rfl
end
theorem cleans_app {n : Nat} {ps qs : List P} (h : cleans n ps = true) (k : cleans n qs = true) : cleans n (ps ++ qs) = true := by
  induction ps with
  | nil => exact k
  | cons p ps ih =>
    have h : (clean n p && cleans n ps) = true := h
    rw [Bool.and_eq_true] at h
    show (clean n p && cleans n (ps ++ qs)) = true
    rw [h.1, ih h.2]
    rfl
/-- the state within: D is the new list, the last of the tracked -/
structure LcSt (K : PySem.W.Frag) (as1 : List Addr) (h1 : AH) (H1 : Hp) (D : Addr) (acc : List P) (h : AH) (H : Hp) : Prop where
  len : h.length = h1.length
  ext : Ext as1 H1 (as1 ++ [D]) H
  rel : RelH K (as1 ++ [D]) (h ++ [.lst acc]) H
  cl : cleans h1.length acc = true
theorem lcst_start {as1 : List Addr} {h1 : AH} {H1 : Hp} {D : Addr} (r : RelH K as1 h1 H1) (e : H1 D = none) : LcSt K as1 h1 H1 D [] h1 (upd H1 D (.lst [])) :=
  ⟨rfl, Ext.push r e, r.push e ⟨[], upd_same, reps_nil⟩, rfl⟩
theorem take_last {h4 : AH} {n : Nat} {o : O} (e : h4[n]? = some o) : h4.take (n + 1) = h4.take n ++ [o] := by
  obtain ⟨l, rfl⟩ := List.getElem?_eq_some_iff.mp e
  rw [List.take_succ_eq_append_getElem l]
/-- back behind an item's reckoning -/
theorem LcSt.back {as1 as4 : List Addr} {h1 h h4 : AH} {H1 H H4 : Hp} {D : Addr} {acc : List P} (r1 : RelH K as1 h1 H1) (L : LcSt K as1 h1 H1 D acc h H) (x : Ext (as1 ++ [D]) H as4 H4) (r4 : RelH K as4 h4 H4) (ok : LcOk h1.length acc h h4) :
    LcSt K as1 h1 H1 D acc (h4.take h1.length) H4 ∧ Ext (as1 ++ [D]) H (as1 ++ [D]) H4 := by
  obtain ⟨x2, r2⟩ := rel_down L.rel x r4 ok.2
  have el : (h ++ [O.lst acc]).length = h1.length + 1 := by simp [L.len]
  rw [el, take_last ok.1] at r2
  refine ⟨⟨?_, L.ext.trans x2, r2, L.cl⟩, x2⟩
  have z := (List.getElem?_eq_some_iff.mp ok.1).1
  rw [List.length_take]
  omega
theorem LcSt.list {as1 : List Addr} {h1 h : AH} {H1 H : Hp} {D : Addr} {acc : List P} (r1 : RelH K as1 h1 H1) (L : LcSt K as1 h1 H1 D acc h H) : ∃ vs, H D = some (.lst vs) ∧ Reps K (as1 ++ [D]) H acc vs := by
  have e1 : (h ++ [O.lst acc])[h1.length]? = some (.lst acc) := by
    rw [← L.len]
    simp
  have e2 : (as1 ++ [D])[h1.length]? = some D := by
    rw [← r1.len]
    simp
  exact L.rel.obj e1 e2
/-- the item is put into the list -/
theorem LcSt.put {as1 : List Addr} {h1 h : AH} {H1 H : Hp} {D : Addr} {acc : List P} {vs : List V} {p : P} {v : V} (r1 : RelH K as1 h1 H1) (n1 : H1 D = none) (L : LcSt K as1 h1 H1 D acc h H) (ev : H D = some (.lst vs)) (rv : Reps K (as1 ++ [D]) H acc vs) (rp : Rep K (as1 ++ [D]) H p v) (c : clean h1.length p = true) :
    LcSt K as1 h1 H1 D (acc ++ [p]) h (upd H D (.lst (vs ++ [v]))) := by
  have e2 : (as1 ++ [D])[h1.length]? = some D := by
    rw [← r1.len]
    simp
  have x := Ext.put (o := .lst (vs ++ [v])) L.rel e2
  have r := L.rel.put e2 (u := .lst (acc ++ [p])) ⟨vs ++ [v], upd_same, (rv.app (reps_cons rp reps_nil)).mono x⟩
  refine ⟨L.len, L.ext.trans x, ?_, cleans_app L.cl (by show (clean _ p && true) = true; rw [c]; rfl)⟩
  have ez : (h ++ [O.lst acc]).set h1.length (O.lst (acc ++ [p])) = h ++ [O.lst (acc ++ [p])] := by
    rw [← L.len]
    simp
  rw [ez] at r
  exact r
theorem lc_post {as : List Addr} {h1 : AH} {H1 : Hp} {s : L2.St} {t : AM.Loc} {J : It} {S : Src} {vs : List Nat} {g : GM} {c : TM} {e : EM} {Q : VK} (r1 : RelH K as h1 H1) (rs : RepS K as H1 t s) (G : Goes2 K J S as h1 H1)
    (q : Post (Rep K) K W s as H1 (lcF S h1 g c e (wipeL t vs) S.xs [] h1) Q) (D : Addr) (hD : H1 D = none) :
    ∃ W : Nat → Nat → Hp → Prop, (∃ m, W 0 m (upd H1 D (.lst []))) ∧ ∀ i m H, W i m H →
      (J.stop i H ∧ Q (.ref D) H) ∨ (J.go i H ∧ ∃ Nx : Hp → Prop, (∀ H', Nx H' → ∃ m', m' < m ∧ W (i + 1) m' H') ∧ ∀ x H', J.yld i H x H' → TGw K vs g x (wipe s vs) H' fun σ2 H2 => wipe σ2 vs = wipe s vs ∧ TTm K W0 c σ2 H2 fun b H3 =>
        if b = true then TEm K W0 e σ2 H3 fun y H4 => ∃ acc, H4 D = some (.lst acc) ∧ acc.length < sizeLine ∧ Nx (upd H4 D (.lst (acc ++ [y]))) else Nx H3) := by
  refine ⟨fun i m H => i + m = S.xs.length ∧ ∃ acc h, LcSt K as h1 H1 D acc h H ∧ Post (Rep K) K W s as H1 (lcF S h1 g c e (wipeL t vs) (S.xs.drop i) acc h) Q, ⟨S.xs.length, by simp, [], h1, lcst_start r1 hD, q⟩, ?_⟩
  rintro i m H ⟨hm, acc, h, L, q⟩
  by_cases hlt : i < S.xs.length
  · have ed : S.xs.drop i = S.xs[i] :: S.xs.drop (i + 1) := List.drop_eq_getElem_cons hlt
    rw [ed] at q
    unfold lcF at q
    split at q
    · rename_i st
      obtain ⟨_, go⟩ := G (as ++ [D]) (h ++ [.lst acc]) H L.ext L.rel st
      obtain ⟨go1, go2⟩ := go i S.xs[i] (by simp [hlt])
      refine .inr ⟨go1, fun H5 => ∃ acc h, LcSt K as h1 H1 D acc h H5 ∧ Post (Rep K) K W s as H1 (lcF S h1 g c e (wipeL t vs) (S.xs.drop (i + 1)) acc h) Q, ?_, fun x H2 yl => ?_⟩
      · rintro H5 ⟨acc5, h5, L5, q5⟩
        exact ⟨m - 1, by omega, by omega, acc5, h5, L5, q5⟩
      · obtain ⟨x2, r2, rx⟩ := go2 x H2 yl
        refine ⟨as ++ [D], h ++ [.lst acc], wipeL t vs, _, r2, (rs.wipe vs).mono (L.ext.trans x2), rx, ?_⟩
        cases eg : g S.xs[i] (wipeL t vs) (h ++ [.lst acc]) with
        | none => rw [eg] at q; exact q.elim
        | some th =>
          rw [eg] at q
          intro as3 H3 s3 x3 r3 e3 sm
          dsimp only at q
          refine ⟨(wipe_same sm).trans wipe_wipe, as3, th.2, th.1, r3, e3, ?_⟩
          cases ec : c th.1 th.2 with
          | bad => rw [ec] at q; exact q.elim
          | exc _ _ _ => rw [ec] at q; exact q.elim
          | ok b h3 =>
            rw [ec] at q
            intro as4 H4 b4 x4 r4 e4
            subst e4
            cases b with
            | false =>
              dsimp only at q
              split at q
              · rename_i ok
                rw [if_neg Bool.false_ne_true]
                obtain ⟨L5, _⟩ := L.back r1 (x2.trans (x3.trans x4)) r4 ok
                exact ⟨acc, _, L5, q⟩
              · exact q.elim
            | true =>
              dsimp only at q
              rw [if_pos rfl]
              refine ⟨as4, h3, th.1, r4, e3.mono x4, ?_⟩
              cases ee : e th.1 h3 with
              | bad => rw [ee] at q; exact q.elim
              | exc _ _ _ => rw [ee] at q; exact q.elim
              | ok p h5 =>
                rw [ee] at q
                intro as5 H5 y x5 r5 e5
                dsimp only at q
                split at q
                · rename_i ok
                  have xx := x2.trans (x3.trans (x4.trans x5))
                  obtain ⟨L5, _⟩ := L.back r1 xx r5 ok.1
                  obtain ⟨us, e6, e7⟩ := L5.list r1
                  obtain ⟨bs, eb⟩ := xx.pre
                  rw [eb] at e5
                  have rp := e5.down (clean_mono (by rw [List.length_append, ← r1.len]; simp) ok.2.1)
                  exact ⟨us, e6, by rw [sizeLine_eq, ← e7.len]; exact ok.2.2, _, _, L5.put r1 hD e6 e7 rp ok.2.1, q⟩
                · exact q.elim
    · exact q.elim
  · have ei : i = S.xs.length := by omega
    subst ei
    rw [List.drop_length] at q
    unfold lcF at q
    split at q
    · rename_i st
      obtain ⟨stop, _⟩ := G (as ++ [D]) (h ++ [.lst acc]) H L.ext L.rel st.1
      refine .inl ⟨stop, ?_⟩
      obtain ⟨us, e6, e7⟩ := L.list r1
      obtain ⟨x3, r3⟩ := rel_down r1 L.ext L.rel st.2
      have et : (h ++ [O.lst acc]).take h1.length = h := by rw [← L.len]; simp
      rw [et] at r3
      refine q as H _ x3 r3 ?_
      unfold Rep
      refine ⟨D, us, rfl, fun z => ?_, e6, e7.down (by rw [r1.len]; exact L.cl)⟩
      exact (r1.live z).1 hD
    · exact q.elim
theorem w_lc {elt tg iter : Expr} {ifs : List Expr} {scope : Scope} {own : List (Str × Nat)} {pos : Pos} {i : IM} {g : GM} {c : TM} {e : EM} (hc : X.calm = true) (hN : X.N.Nodup) (hi : PIm X W tg iter i) (ok : BlkOk X.N X.env.scope scope own)
    (hg : ∀ (s : Shared) (H : Hp) (C : Addr) (cl : List (Str × Addr)) (fp : List Addr), PGw (X.blk s H scope (compEnvC scope cl C X.env) fp) (own.map (·.2)) tg g) (ht : ∀ (s : Shared) (H : Hp) (C : Addr) (cl : List (Str × Addr)) (fp : List Addr), PTsm (X.blk s H scope (compEnvC scope cl C X.env) fp) W0 ifs c)
    (he : ∀ (s : Shared) (H : Hp) (C : Addr) (cl : List (Str × Addr)) (fp : List Addr), PEm (X.blk s H scope (compEnvC scope cl C X.env) fp) W0 elt e) (hs : ∀ x, foldedSetIterable iter X.env x = pure x := by intro _; rfl) :
    PEm X W (.ListComp elt [⟨tg, iter, ifs, 0⟩] scope pos) (eLc i (own.map (·.2)) g c e) := by
  refine PE_imp (pe_lc (g := TGw X.K (own.map (·.2)) g) (tt := TTm X.K W0 c) (te := TEm X.K W0 e) hc hN hi ok hg ht he hs) fun s H Q q => ?_
  obtain ⟨as, h, t, rh, rs, q⟩ := q
  refine ⟨as, h, t, rh, rs, ?_⟩
  unfold eLc at q
  cases ei : i t h with
  | bad => rw [ei] at q; exact q.elim
  | exc c p h1 => rw [ei] at q; exact q
  | ok S h1 =>
    rw [ei] at q
    intro as1 H1 J x1 r1 G D hD
    exact lc_post r1 (rs.mono x1) G (Post.ext (o := lcF S h1 g c e (wipeL t (own.map (·.2))) S.xs [] h1) q x1) D hD
theorem w_setLc {k : Nat} {y : Str} {py : Pos} {elt tg iter : Expr} {ifs : List Expr} {scope : Scope} {own : List (Str × Nat)} {pos spos : Pos} {i : IM} {g : GM} {c : TM} {e : EM} (hc : X.calm = true) (hN : X.N.Nodup) (hi : PIm X W tg iter i) (ok : BlkOk X.N X.env.scope scope own)
    (hg : ∀ (s : Shared) (H : Hp) (C : Addr) (cl : List (Str × Addr)) (fp : List Addr), PGw (X.blk s H scope (compEnvC scope cl C X.env) fp) (own.map (·.2)) tg g) (ht : ∀ (s : Shared) (H : Hp) (C : Addr) (cl : List (Str × Addr)) (fp : List Addr), PTsm (X.blk s H scope (compEnvC scope cl C X.env) fp) W0 ifs c)
    (he : ∀ (s : Shared) (H : Hp) (C : Addr) (cl : List (Str × Addr)) (fp : List Addr), PEm (X.blk s H scope (compEnvC scope cl C X.env) fp) W0 elt e) (hk : X.env.scope.kind = .function := by rfl) (hy : X.N[k]? = some y := by rfl) (hyl : X.env.scope.names.lookup y = some .local := by rfl) (hline : (py.line == pos.line) = true := by rfl)
    (ha : (scope.names.any fun (n, k) => n == y && (k == .local || k == .cell)) = false := by decide) (hs : ∀ x, foldedSetIterable iter X.env x = pure x := by intro _; rfl) :
    PSm X W (.Assign [.Name y py] (.ListComp elt [⟨tg, iter, ifs, 0⟩] scope pos) spos) (sA (eLc i (own.map (·.2)) g c e) (gN k)) := by
  refine PS_imp (ps_setLc (i := k) (g := TGw X.K (own.map (·.2)) g) (tt := TTm X.K W0 c) (te := TEm X.K W0 e) hc hN hy hyl (sw_true hk hyl hline ha) hi ok hg ht he hs) fun Dn s H q => ?_
  obtain ⟨as, h, t, rh, rs, q⟩ := q
  have q := PostS.toS (R := Rep X.K) rs q
  refine ⟨as, h, t, rh, rs, ?_⟩
  unfold eLc at q
  cases ei : i t h with
  | bad => rw [ei] at q; exact q.elim
  | exc c p h1 => rw [ei] at q; exact q
  | ok S h1 =>
    rw [ei] at q
    intro as1 H1 J x1 r1 G D hD
    refine lc_post (W := W) (Q := fun x H2 => gName k x s H2 Dn.nx) r1 (rs.mono x1) G ?_ D hD
    refine (Post.ext (o := lcF S h1 g c e (wipeL t (own.map (·.2))) S.xs [] h1) q x1).mono fun b H2 z => ?_
    obtain ⟨as2, h2, a, x2, r2, e2, q2⟩ := z
    exact q2 as2 H2 _ (Ext.refl _ _) r2 ((rs.mono x2).set e2 k)
end
end AM

/-! AM16: repr, len of an own instance, t[::-1], t.index(x) behind a property. -/
namespace AM
open PySem PySem.Spec PyProof.Rows L2

/-! ### t[::-1] -/
section
variable {prog : Program} {w : World} {A : Around} {E : Value → Shared → Prop} {s : Shared}
theorem places_rev (n : Nat) : Builtin.Slice.slicePlaces ((n : Int) - 1) (-1) (-1) = n := by
  unfold Builtin.Slice.slicePlaces
  have h1 : ¬ ((-1 : Int) > 0) := by omega
  have h2 : ((n : Int) - 1 - -1 - 1) / - -1 = (n : Int) - 1 := by
    rw [show - -(1 : Int) = 1 by rfl, Int.ediv_one]
    omega
  simp only [h1, if_false, h2]
  split <;> omega
theorem range_pick {α : Type} : ∀ (ys : List α) (f : Nat → Option α), (∀ m, m < ys.length → f m = ys[m]?) → (List.range ys.length).filterMap f = ys
  | [], _, _ => rfl
  | y :: ys, f, h => by
    rw [List.length_cons, List.range_succ_eq_map, List.filterMap_cons, h 0 (by simp)]
    simp only [List.getElem?_cons_zero]
    rw [List.filterMap_map, range_pick ys (f ∘ Nat.succ) fun m hm => (h (m + 1) (by simpa using hm)).trans (by simp)]
theorem pick_rev (xs : Array Value) : ((List.range xs.size).filterMap fun (m : Nat) => xs[(((xs.size : Int) - 1) + (m : Int) * (-1)).toNat]?) = xs.toList.reverse := by
  have e2 : xs.size = xs.toList.reverse.length := by simp
  conv => lhs; rw [show List.range xs.size = List.range xs.toList.reverse.length by rw [← e2]]
  refine range_pick _ _ fun m hm => ?_
  rw [← e2] at hm
  have e1 : (((xs.size : Int) - 1) + (m : Int) * (-1)).toNat = xs.toList.length - 1 - m := by
    rw [Array.length_toList]
    omega
  rw [e1, List.getElem?_reverse (by rw [Array.length_toList]; exact hm), Array.getElem?_toList]
theorem applied_rev {sl : Addr} {vs : Value} {n : Nat} {Q : Int × Int × Nat → Shared → Prop} (hs : s.heap.IsSliceOf sl .none .none vs) (ps : IsPart vs (some (-1))) (h : Q ((n : Int) - 1, -1, n) s) :
    wpAny (model prog w) A (Builtin.Slice.sliceApplied (.ref sl) (pure (n : Int))) Q E s := by
  obtain ⟨os, o1, o2, o3⟩ := id hs
  unfold Builtin.Slice.sliceApplied Builtin.Slice.sliceFields
  refine wpAny_bind (wpAny_bind (wpAny_field o1 o3 (x := .none) rfl (wpAny_bind (wpAny_field o1 o3 (x := .none) rfl (wpAny_bind (wpAny_field o1 o3 (x := vs) rfl (wpAny_pure ?_)))))))
  refine wpAny_bind (HT.slicePart_ ps ?_)
  show wpAny _ _ (if ((-1 : Int) == 0) = true then _ else _) _ _ s
  rw [if_neg (by decide)]
  refine wpAny_bind (PyProof.Rows.slicePart_none (wpAny_bind (PyProof.Rows.slicePart_none (wpAny_bind (wpAny_pure ?_)))))
  show wpAny _ _ (pure (((n : Int) - 1), (-1 : Int), Builtin.Slice.slicePlaces ((n : Int) - 1) (-1) (-1))) _ _ s
  rw [places_rev]
  exact wpAny_pure h
theorem getItem_tuple_rev {t sl : Addr} {items : Array Value} {vs : Value} {Q : Value → Shared → Prop} (ht : IsTup s.heap t items) (hs : s.heap.IsSliceOf sl .none .none vs) (ps : IsPart vs (some (-1)))
    (h : Q (.ref s.heap.objs.size) { s with heap := s.heap.push { cls := .type "tuple", data := .seq items.toList.reverse.toArray } }) (hsz : items.size ≤ sizeLine) : wpAny (model prog w) A (getItem (.ref t) (.ref sl)) Q E s := by
  have fits : sizeOk (.seq items.toList.reverse.toArray) := by
    show items.toList.reverse.toArray.size ≤ sizeLine
    rw [List.size_toArray, List.length_reverse, Array.length_toList]
    exact hsz
  obtain ⟨os, o1, o2, o3⟩ := id hs
  have isS : s.TypeIs (.ref sl) "slice" := ⟨os, o1, o2⟩
  unfold getItem
  try with_reducible refine wpAny_holding ?_
  first | refine (wpAny_bind (wpAny_pure ?_)) | skip
  refine (wpAny_bind (wpAny_sequenceKey ht.typeIs (by decide) ?_))
  refine wpAny_bind (wpAny_callSpecial?_slot (name := Str.ofString "__getitem__") ht.typeIs PyProof.Rows.slot_tuple_getitem (wpAny_call_entry PyProof.Rows.slot_tuple_getitem ht.typeIs entry_tuple_getitem ?_ (args_tuple_getitem _ _)))
  show wpAny _ _ (Builtin.Tuple.tupleItemsOf (.ref t) >>= _) _ _ s
  refine wpAny_bind (PyProof.Rows.tupleItemsOf_ ht (wpAny_bind (wpAny_typeOf isS ?_)))
  rw [if_pos (by decide)]
  refine wpAny_bind (applied_rev hs ps ?_)
  have no : ¬ ((((items.size : Int) - 1) == 0 && (-1 : Int) == 1 && items.size == items.size) = true) := by simp
  show wpAny _ _ (if (((items.size : Int) - 1) == 0 && (-1 : Int) == 1 && items.size == items.size) = true then _ else _) _ _ s
  rw [if_neg no]
  rw [pick_rev]
  first
    | exact wpAny_bind (m := Builtin.Tuple.tupleExact _) (wpAny_newObj_type (wpAny_pure ⟨_, rfl, wpAny_pure h⟩) fits)
    | exact wpAny_bind (m := Builtin.Tuple.tupleExact _) (wpAny_newObj_type (wpAny_bind (wpAny_pure (wpAny_pure ⟨_, rfl, wpAny_pure h⟩))) fits)
    | exact wpAny_bind (wpAny_bind (m := Builtin.Tuple.tupleExact _) (wpAny_newObj_type (wpAny_pure (wpAny_pure ⟨_, rfl, wpAny_pure h⟩)) fits))
    | exact wpAny_bind (wpAny_bind (m := Builtin.Tuple.tupleExact _) (wpAny_newObj_type (wpAny_pure ⟨_, rfl, wpAny_pure h⟩) fits))
end
noncomputable section
variable {X : Cx} {W : WX} {K : PySem.W.Frag}
def revP : F1 := fun p h => match p with
  | .tup xs => .ok (.tup xs.reverse) h
  | _ => .bad
theorem w_rev {e : Expr} {m : EM} {k : Nat} {p1 p2 p3 pos : Pos} (he : PEm X W e m) : PEm X W (.Subscript e (.Slice none none (some (.UnaryOp .USub (.Constant (.int 1) k p1) p2)) p3) pos) (eU revP m) := by
  refine ⟨fun pins s σ H Q I h => ?_⟩
  obtain ⟨as, h0, t, rh, rs, q⟩ := h
  refine Subscript_ (thn (he.run pins s σ H _ I ⟨as, h0, t, rh, rs, Post.bind (R := Rep X.K) q⟩) fun v s1 z => ?_)
  obtain ⟨x, H1, I1, rx, as1, h1, p, x1, r1, e1, q1⟩ := z
  unfold revP at q1
  split at q1
  · rename_i xs
    unfold Rep at e1
    obtain ⟨a, vs, rfl, t1, t2⟩ := e1
    cases rx
    have hst : PO X (some (.UnaryOp .USub (.Constant (.int 1) k p1) p2)) (tPart (tUn (rU fun i => .int (-i)) (tC (.int 1)))) := po_some (pe_un un_neg pe_int)
    refine wpAny_Slice (thn (po_none.run pins s1 σ H1 (fun o H2 => o = none ∧ H2 = H1) I1 ⟨rfl, rfl⟩) fun vl s2 z => ?_)
    obtain ⟨l, H2, I2, pl, rfl, rfl⟩ := z
    refine thn (po_none.run pins s2 σ _ (fun o H3 => o = none ∧ H3 = _) I2 ⟨rfl, rfl⟩) fun vu s3 z => ?_
    obtain ⟨u, H3, I3, pu, rfl, rfl⟩ := z
    refine thn (hst.run pins s3 σ _ (fun o H4 => o = some (-1) ∧ H4 = _) I3 ⟨1, rfl, -1, rfl, rfl, rfl⟩) fun vt s4 z => ?_
    obtain ⟨o, H4, I4, ps, rfl, rfl⟩ := z
    cases pl
    cases pu
    have I5 := I4.kept (h' := s4.heap.push { cls := .type "slice", data := .fields #[.none, .none, vt] }) (t' := s4.toks) fun b ob q => Heap.get?_push_of_some _ q
    obtain ⟨its, r, ht, hz⟩ := I5.tuple t1.sq
    have hl := r.length
    show wpAny (model X.prog X.w) X.A (subscriptTail e (.Slice none none (some (.UnaryOp .USub (.Constant (.int 1) k p1) p2)) p3) (.ref a) (.ref s4.heap.objs.size)) (EP X pins σ Q) X.xe { s4 with heap := s4.heap.push { cls := .type "slice", data := .fields #[.none, .none, vt] } }
    refine tail_any (ops := [.ref a, .ref s4.heap.objs.size]) ht.typeIs PyProof.Rows.slot_tuple_getitem.lookup ?_ (by with_unfolding_all rfl)
    refine getItem_tuple_rev ht (Heap.IsSliceOf.new _ .none .none vt) ps ?_ (by rw [List.size_toArray]; omega)
    refine ⟨.ref _, _, I5.laid (t' := s4.toks) (o := .tup vs.reverse) (fun b ob q => Heap.get?_push_of_some _ q) (Nat.le_refl _) ?_, rfl, post_tup r1 t2.reverse q1 _ (I5.hok.fresh (Nat.le_refl _))⟩
    exact ⟨by rw [List.length_reverse]; exact hz, _, r.reverse, ⟨_, Heap.get?_push_size _ rfl, rfl, 0, by simp⟩⟩
  · exact q1.elim

/-! ### repr -/
def shownOk (d : PyData) : Bool := d.showable && !d.hasDict && decide (d.depth ≤ 60) && small d.shown.length
def fRepr : FL := fun xs h => match xs with
  | [p] => (match dat h p with
    | some d => if shownOk d = true then .ok (.str d.shown) h else .bad
    | none => .bad)
  | _ => .bad
def rRepr (K : PySem.W.Frag) : List V → Hp → VK → Prop := fun xs H Q => ∃ v d, xs = [v] ∧ Dp K H v d ∧ shownOk d = true ∧ Q (.str d.shown) H
theorem cr_repr {k : Nat} (hk : Here X k) : CallR X (.builtin "repr") (rRepr X.K) := by
  intro pins s σ H xs us Q I r h
  obtain ⟨v, d, rfl, hd, ok, q⟩ := h
  obtain ⟨u, rfl, ru⟩ := vals1 r
  unfold shownOk at ok
  rw [Bool.and_eq_true, Bool.and_eq_true, Bool.and_eq_true] at ok
  obtain ⟨⟨⟨o1, o2⟩, o3⟩, o4⟩ := ok
  have fits := small_ok o4
  have un := hk.room.un
  obtain ⟨as, rd⟩ := Dp.reads I d v u hd ru
  cases hd with
  | non =>
    cases ru
    exact PySem.P.repr_of_none ⟨.str _, H, I.tok _, ⟨_, rfl⟩, q⟩
  | bl b =>
    cases ru
    exact PySem.P.repr_of_bool ⟨.str _, H, I.tok _, ⟨_, rfl⟩, q⟩
  | int i =>
    obtain ⟨t, rfl⟩ := ru
    exact PySem.P.repr_of_int (of_decide_eq_true o1) ⟨.str _, H, I.tok _, ⟨_, rfl⟩, q⟩
  | str x =>
    obtain ⟨t, rfl⟩ := ru
    exact PySem.P.repr_of_str ⟨.str _, H, I.tok _, ⟨_, rfl⟩, q⟩ fits
  | @lst a vs ds hs ha =>
    cases ru
    have hu : X.A.units + (PyData.depth (.list ds) + 1) < cLine := by have := of_decide_eq_true o3; omega
    exact repr_of_reads' rd o1 (PyData.noDict_hsm (by simpa using o2)) hk.gd hu (fun _ _ e => e) (fun h2 u2 tk kp => ⟨.str _, H, I.kept (t' := tk) kp, ⟨_, rfl⟩, q⟩) fits
  | @tup a vs ds hs ha =>
    cases ru
    have hu : X.A.units + (PyData.depth (.tuple ds) + 1) < cLine := by have := of_decide_eq_true o3; omega
    exact repr_of_reads' rd o1 (PyData.noDict_hsm (by simpa using o2)) hk.gd hu (fun _ _ e => e) (fun h2 u2 tk kp => ⟨.str _, H, I.kept (t' := tk) kp, ⟨_, rfl⟩, q⟩) fits
theorem sn_repr : SndL K (rRepr K) fRepr := fun {W s as h H p v Q} rh rp z => by
  unfold fRepr at z
  split at z
  · obtain ⟨v, rfl, r⟩ := reps1 rp
    split at z
    · rename_i d e
      split at z
      · rename_i ok
        exact ⟨v, d, rfl, dat_ok rh r e, ok, Post.done z (Ext.refl _ _) rh rfl⟩
      · exact z.elim
    · exact z.elim
  · exact z.elim

/-! ### len of an own instance -/
def fLenO (C : Str) (m : Fn) : FL := fun xs h => match xs with
  | [p] => (match insOf h p with
    | some (_, D, _) => if D = C then (m [p] h).calm.bind fun r h2 => match r with
      | .int n => if 0 ≤ n ∧ n < 1000000 then .ok (.int n) h2 else .bad
      | _ => .bad else .bad
    | none => fLen [p] h)
  | _ => .bad
def rLenO (K : PySem.W.Frag) (C : Addr) (sp : Sp) : List V → Hp → VK → Prop := fun xs H Q => (∃ a dx vs, xs = [V.ref a] ∧ SlX.Slt H a C dx vs ∧ sp [.ref a] H (fun v H' => ∃ n, v = .int n ∧ 0 ≤ n ∧ n < 2 ^ 63 ∧ Q (.int n) H') fun _ _ _ => False) ∨ rLenA K xs H Q
theorem cr_lenO {k : Nat} {C q0 : Str} {params : Arguments} {m : Fn} (F : HasM X.prog X.w X.K X.mg X.base C "__len__" params [q0] k m) (hb : BindP params [q0]) (hk : Here X (k + 1)) : CallR X (.builtin "len") (rLenO X.K (He.ga X.K C) (spOf X.K 1 m)) := by
  obtain ⟨f, fd, qual, body, scope, hm, G, D⟩ := F.ex
  refine CallR.or ?_ cr_len
  intro pins s σ H xs us Q I r h
  obtain ⟨a, dx, vs, rfl, hsl, q⟩ := h
  obtain ⟨u, rfl, ru⟩ := vals1 r
  cases ru
  obtain ⟨sl, od, _, J, _⟩ := SlX.slt_inst I hsl
  obtain ⟨mm, hF⟩ := I.fr
  refine PySem.W.len_K hF I.ok.mod.kin J hm.at_ hm.fn (wpAny_call ?_)
  refine codeAny_mono (G.run X.A.in1 X.stack s H ⟨[.ref a], []⟩ [.ref a] [.ref a] _ (fun _ _ _ => False) hk.room.in1 hk.gd I.env0.in1 ?_ (.cons (show RelV (.ref a) (.ref a) from rfl) .nil) q) fun r s' z => ?_
  · exact D.bindsA (fun kV doc pm an cdv ct us hl => hb "__len__" qual body scope kV doc pm an cdv ct us hl) _ [.ref a] rfl
  · cases r with
    | error e =>
      obtain ⟨_, _, _, _, _, _, _, _, _, _, _, _, no⟩ := z
      exact no.elim
    | ok fl =>
      cases fl with
      | ret u =>
        obtain ⟨v, H2, I2, rv, n, rfl, n0, n1, qv⟩ := I.after z
        obtain ⟨t, rfl⟩ := rv
        exact ⟨⟨n0, n1⟩, .int n, H2, I2.tok _, ⟨_, rfl⟩, qv⟩
      | next => exact z.elim
      | brk => exact z.elim
      | cont => exact z.elim
theorem sn_lenO {C : Str} {m : Fn} : SndL K (rLenO K (He.ga K C) (spOf K 1 m)) (fLenO C m) := fun {W s as h H p v Q} rh rp z => by
  unfold fLenO at z
  split at z
  · obtain ⟨v, rfl, r⟩ := reps1 rp
    split at z
    · rename_i j D fs e
      split at z
      · rename_i eD
        subst eD
        obtain ⟨_, _, b, dx, vs, rfl, _, hsl, _⟩ := insOf_ok rh r e
        refine .inl ⟨b, dx, vs, rfl, hsl, as, h, _, rh, reps_cons r reps_nil, rfl, ?_⟩
        have z2 := Post.bind (R := Rep K) z
        refine (Post.calm (W' := fun _ _ _ _ => False) (s' := []) z2).mono fun b H1 y => ?_
        obtain ⟨as1, h1, x, x1, r1, e1, q1⟩ := y
        split at q1
        · split at q1
          · rename_i l
            cases e1
            exact ⟨_, rfl, l.1, by omega, Post.done q1 (Ext.refl _ _) r1 rfl⟩
          · exact q1.elim
        · exact q1.elim
      · exact z.elim
    · exact .inr (sn_len rh rp z)
  · exact z.elim

/-! ### a property's tuple, asked for a place -/
/-- a tuple that stands with its very object -/
def RepI (K : PySem.W.Frag) (as : List Addr) (H : Hp) (p : P) (v : V) : Prop := ∃ ys a vs o, p = .tup ys ∧ v = .ref a ∧ a ∉ as ∧ H a = some (.frz o (.tup vs)) ∧ PlainT o ∧ Reps K as H ys vs
def spI (K : PySem.W.Frag) (m : Fn) : Sp := fun vs H Q E => ∃ as h x, RelH K as h H ∧ Reps K as H [x] vs ∧ Post (RepI K) K (fun c d _ H' => E c d H') [] as H (m [x] h) Q
structure HasPI (Pr : Program) (w : World) (K : PySem.W.Frag) (mg : Str → Option Value) (base : Heap) (C mt : Str) (params : Arguments) (q0 : Str) (k : Nat) (m : Fn) : Prop where
  cls : SlX.SCls K (He.ga K C)
  ex : ∃ p g fd qual body scope, PySem.W.findIn K (.ref (He.ga K C)) mt = some (some (.ref p)) ∧ PySem.W.specialIn K (.ref p) "__get__" = some (some (.builtin "property.__get__")) ∧ PySem.W.takesIn K (.ref p) = some true ∧
    (∃ rest, PySem.W.recIn K p "property" = some (.ref g :: rest)) ∧ FnG Pr w K mg base k g fd [q0] (spI K m) ∧ FunD K mt qual params body scope [] [] g fd
def idxS (ys : List P) (q : P) : Option Nat := match q with
  | .str z => (strsOf ys).bind fun xs => if xs.idxOf z < xs.length then some (xs.idxOf z) else none
  | _ => none
def eIdx (C : Str) (m : Fn) (o e : EM) : EM := fun t h => (eProp C m o t h).bind fun x h1 => match x with
  | .tup ys => (e t h1).bind fun q h2 => match idxS ys q with
    | some j => .ok (.int (j : Nat)) h2
    | none => .bad
  | _ => .bad
theorem w_idx {k : Nat} {C mt q0 : Str} {params : Arguments} {m : Fn} {o e : Expr} {mo me : EM} {p1 apos cpos : Pos} (F : HasPI X.prog X.w X.K X.mg X.base C mt params q0 k m) (hb : BindP params [q0]) (hk : Here X (k + 1))
    (ho : PEm X W o mo) (he : PEm X W e me) (hbase1 : attributeBase o mt X.env (eval o X.env) = eval o X.env := by rfl) (hbase : attributeBase (.Attribute o mt p1) "index" X.env (eval (.Attribute o mt p1) X.env) = eval (.Attribute o mt p1) X.env := by rfl)
    (hfew : ((backTo cpos (starEach [e] X.env)).all (fun x => !x.1) && (backToKw cpos (keywordEach [] X.env)).all (fun x => x.1.isSome)
      && decide ([e].length + ([] : List Keyword).length + (if ([] : List Keyword).isEmpty then 0 else 1) < 30)) = true := by rfl)
    (hline : (apos.endLine == cpos.line) = true := by rfl) (hst : starEach [e] X.env = (false, eval e X.env) :: starEach [] X.env := by rfl) (hplain : (backTo cpos (starEach [] X.env)).any (·.1) = false := by rfl) :
    PEm X W (.Call (.Attribute (.Attribute o mt p1) "index" apos) [e] [] cpos) (eIdx C m mo me) := by
  obtain ⟨p, g, fd, qual, body, scope, h1, h2, h3, ⟨rest, h4⟩, G, D⟩ := F.ex
  -- the property
  have hp : PE X (.Attribute o mt p1) (TG_ (RepI X.K) X.K W (eProp C m mo)) := by
    refine ⟨fun pins s σ H Q I q => ?_⟩
    obtain ⟨as, h, t, rh, rs, q⟩ := q
    refine attr_of hbase1 (thn (ho.run pins s σ H _ I ⟨as, h, t, rh, rs, Post.bind (R := Rep X.K) q⟩) fun u s1 z => ?_)
    obtain ⟨v, H1, I1, rv, as1, hh1, x, x1, r1, e1, q1⟩ := z
    split at q1
    · rename_i j D' fs z
      split at q1
      · rename_i eD
        subst eD
        obtain ⟨_, _, b, dx, vs, ev, _, hsl, _⟩ := insOf_ok r1 e1 z
        subst ev
        cases rv
        obtain ⟨sl, od, _, J, _⟩ := SlX.slt_inst I1 hsl
        have I2 := I1.tok (s1.toks + 1)
        refine PySem.W.get_bind I1.kIn J (PySem.W.plainGet_of (F.cls.get mt)).1 (PySem.W.findObj_data F.cls.ic h1 h2 h3) (PySem.W.plainGet_of (F.cls.get mt)).2
          (wpAny_call (PySem.W.prop_get (s := { s1 with toks := s1.toks + 1 }) I1.kIn h4 ?_))
        refine codeAny_mono (G.run X.A.in1 X.stack _ H1 ⟨[.ref b], []⟩ [.ref b] [.ref b] Q (fun _ _ _ => False) hk.room.in1 hk.gd I2.env0.in1 ?_ (.cons (show RelV (.ref b) (.ref b) from rfl) .nil) ⟨as1, hh1, x, r1, reps_cons e1 reps_nil, Post.calm q1⟩) fun r s' hq => ?_
        · exact D.bindsA (fun kV doc pm an cdv ct us hl => hb mt qual body scope kV doc pm an cdv ct us hl) _ [.ref b] rfl
        · cases r with
          | error e =>
            obtain ⟨_, _, _, _, _, _, _, _, _, _, _, _, no⟩ := hq
            exact no.elim
          | ok fl =>
            cases fl with
            | ret u =>
              obtain ⟨v, H', I3, rv, qv⟩ := I2.after hq
              exact wpAny_of_eq (PySem.W.handedOut_of (handed_of rv)) ⟨v, H', I3, rv, qv⟩
            | next => exact hq.elim
            | brk => exact hq.elim
            | cont => exact hq.elim
      · exact q1.elim
    · exact q1.elim
  refine ⟨fun pins s σ H Q I q => ?_⟩
  obtain ⟨as, h, t, rh, rs, q⟩ := q
  refine wpAny_Call_method_late hbase hfew hline rfl (thn (hp.run pins s σ H _ I ⟨as, h, t, rh, rs, Post.bind (R := RepI X.K) q⟩) fun v s1 z => ?_)
  obtain ⟨x, H1, I1, rx, as1, hh1, y, x1, r1, e1, q1⟩ := z
  obtain ⟨ys, a, vs, ob, rfl, rfl, na, ha, po, ry⟩ := e1
  cases rx
  have hob : s1.heap.get? a = some ob := (show ObjOk X.prog X.w H1 s1.heap a (.frz ob (.tup vs)) from I1.hok a _ ha).1
  refine ⟨"tuple", "tuple.index", PySem.F.plainAttrs_tuple, PySem.F.slot_tuple_index, PySem.F.type_tuple_index, ⟨ob, hob, po.1⟩, fun b eb => ?_, ?_⟩
  · cases eb
    exact ⟨ob, hob, po.2⟩
  · have hA := he.run
    have hAA := (pa_cons he pa_nil hst).run cpos pins s1 σ H1 (fun us H2 => ∃ q, us = [q] ∧ ∃ as2 h2 w, Ext as1 H1 as2 H2 ∧ RelH X.K as2 h2 H2 ∧ Rep X.K as2 H2 w q ∧ Post (Rep X.K) X.K W σ as2 H2 (match idxS ys w with
      | some j => .ok (.int (j : Nat)) h2
      | none => .bad) Q) I1 ⟨as1, hh1, t, r1, rs.mono x1, (Post.bind (R := Rep X.K) q1).mono fun q H2 z => by
        obtain ⟨as2, h2, w, x2, r2, e2, q2⟩ := z
        exact ⟨q, rfl, as2, h2, w, x2, r2, e2, q2⟩⟩
    rw [hst] at hAA ⊢
    refine Calls.callWith_builtin (by show (false || (backTo cpos (starEach [] X.env)).any (·.1)) = false; rw [hplain] <;> rfl) (Calls.evalArgs_plain ?_)
    refine thn hAA fun us s2 z => ?_
    obtain ⟨ws, H2, I2, r2, q, rfl, as2, h2, w, x2, r3, e2, q2⟩ := z
    split at q2
    · rename_i j hj
      unfold idxS at hj
      split at hj
      · rename_i zz
        obtain ⟨xs, e3, e4⟩ := Option.bind_eq_some_iff.mp hj
        split at e4
        · rename_i l
          cases e4
          have ry2 := ry.mono x2
          have ev := strsOf_ok ry2 e3
          subst ev
          have ha2 := (x2.keep a _ ha na (fun _ z => by cases z)).1
          have sq : SqT X.K H2 a (xs.map V.str) := .inl (.inr ⟨ob, ha2⟩)
          cases e2
          refine mt_tup_index pins s2 σ H2 (.ref a) _ _ us Q I2 (show RelV (.ref a) (.ref a) from rfl) r2 ⟨a, xs, zz, xs.idxOf zz, rfl, rfl, sq, ?_, fun m hm hx => ?_, Post.done q2 (Ext.refl _ _) r3 rfl⟩
          · rw [List.getElem?_eq_getElem l, List.getElem_idxOf l]
          · have lm : m < xs.length := Nat.lt_trans hm l
            rw [List.getElem?_eq_getElem lm] at hx
            have := List.not_of_lt_findIdx hm
            simp only [Option.some.injEq] at hx
            rw [hx] at this
            simp at this
        · cases e4
      · cases hj
    · exact q2.elim
end
end AM

/-! AM17: a property whose tuple is asked for a place: its promise. -/
namespace AM
open PySem PySem.Spec PyProof.Rows L2
noncomputable section
variable {X : Cx} {W : WX} {K : PySem.W.Frag}
def fTupD : FL := fun xs h => match xs with
  | [p] => (match dctOf h p with
    | some kvs => .ok (.tup (kvs.map fun kv => keyP kv.1)) h
    | none => .bad)
  | _ => .bad
theorem sn_tupD : SndL K (rTupA K) fTupD := fun {W s as h H p v Q} rh rp z => by
  unfold fTupD at z
  split at z
  · obtain ⟨v, rfl, r⟩ := reps1 rp
    split at z
    · rename_i kvs e
      obtain ⟨a, ws, rfl, h1, h2⟩ := dctOf_ok rh r e
      exact .inr ⟨a, ws, rfl, h1, fun l o e _ => post_tup rh (keys_rep h2) z l e⟩
    · exact z.elim
  · exact z.elim
theorem w_tupI {e : Expr} {a : LM} {p pos : Pos} (hc : X.calm = true) (hm : X.mg "tuple" = none) (ha : PAm X W [e] a) (hg : Gl X "tuple" := by rfl) (hv : bootBuiltins "tuple" = some (.type "tuple") := by rfl) (he : starEach [e] X.env = (false, eval e X.env) :: starEach [] X.env := by rfl) (hpl : (backTo pos (starEach [] X.env)).any (·.1) = false := by rfl) :
    PE X (.Call (.Name "tuple" p) [e] [] pos) (TG_ (RepI X.K) X.K W (eCB fTupD a)) := PE_imp (pe_callTy (call_tupD (b := true) hc) hg hm hv ha (by decide) (by decide) he hpl) fun s H Q q => by
  obtain ⟨as, h, t, rh, rs, q⟩ := q
  refine ⟨as, h, t, rh, rs, (Post.bind (R := Reps X.K) q).mono fun v H1 z => ?_⟩
  obtain ⟨as1, h1, ps, x1, r1, e1, q1⟩ := z
  unfold fTupD at q1
  split at q1
  · obtain ⟨u, rfl, r⟩ := reps1 e1
    split at q1
    · rename_i kvs ek
      obtain ⟨ad, ws, rfl, h3, h4⟩ := dctOf_ok r1 r ek
      refine ⟨ad, ws, rfl, h3, fun l o el po => ?_⟩
      refine q1 as1 _ _ (Ext.laid r1 el) (r1.laid el) ⟨_, l, _, o, rfl, rfl, r1.new el, upd_same, po, (keys_rep h4).mono (Ext.laid r1 el)⟩
    · exact q1.elim
  · exact q1.elim
theorem trim_okI {as as' : List Addr} {h0 h : AH} {H H' : Hp} {p : P} {v : V} (r0 : RelH K as h0 H) (x : Ext as H as' H') (r : RelH K as' h H') (rv : RepI K as' H' p v) : ∃ as2, Ext as H as2 H' ∧ RelH K as2 (trim h0 p h) H' ∧ RepI K as2 H' p v := by
  unfold trim
  split
  · rename_i c
    obtain ⟨x2, r2⟩ := rel_down r0 x r c.2
    obtain ⟨bs, rfl⟩ := x.pre
    obtain ⟨ys, a, vs, o, rfl, rfl, na, ha, po, ry⟩ := rv
    exact ⟨as, x2, r2, ys, a, vs, o, rfl, rfl, fun z => na (List.mem_append_left _ z), ha, po, ry.down (by rw [r0.len]; exact c.1)⟩
  · exact ⟨as', x, r, rv⟩
theorem fnGI_mk {Pr : Program} {w : World} {K : PySem.W.Frag} {mg : Str → Option Value} {base : Heap} {k : Nat} {x qual q0 : Str} {params : Arguments} {e : Expr} {rpos : Pos} {scope : Scope} {f : Addr} {fd : FuncData}
    {N : List Str} {m : EM} (F : FunD K x qual params [.Return (some e) rpos] scope [] [] f fd) (S : FnScope N [q0] scope)
    (hb : ∀ (cdv : Value) (A : Around) (outer : List Env) (s : Shared) (H : Hp) (E : XK), Here (cxOf (CX Pr w) Pr w K mg base N qual scope f cdv A outer s H E) k → Takes (cxOf (CX Pr w) Pr w K mg base N qual scope f cdv A outer s H E) (fun c d _ H' => E c d H') →
      PE (cxOf (CX Pr w) Pr w K mg base N qual scope f cdv A outer s H E) e (TG_ (RepI K) K (fun c d _ H' => E c d H') m)) :
    FnG Pr w K mg base (k + 1) f fd [q0] (spI K (mkFn N.length (sR m))) := by
  refine fnG_of F S (fun vs H Q E q => ?_) fun cdv A outer s H vs Q E hk q => ?_
  · obtain ⟨as, h, x, _, r, _⟩ := q
    rw [← r.len]
    rfl
  · refine ⟨_, pss_one (ps_ret (hb cdv A outer s H E hk (takes_of rfl rfl rfl rfl))), ?_⟩
    obtain ⟨as, h, x, rh, r, q⟩ := q
    refine ⟨as, h, _, rh, reps_start r, ?_⟩
    unfold mkFn sR at q
    cases z : m ([x].map some ++ List.replicate (N.length - [x].length) none) h with
    | ok p h' =>
      rw [z] at q
      intro as' H' v x2 r2 rv
      obtain ⟨as2, x3, r3, rv2⟩ := trim_okI rh x2 r2 rv
      exact q as2 H' v x3 r3 rv2
    | exc c p h' =>
      rw [z] at q
      intro as' H' d w x2 r2 e1 e2
      obtain ⟨as2, x3, r3, rv2⟩ := trim_ok rh x2 r2 e2
      exact q as2 H' d w x3 r3 e1 rv2
    | bad => rw [z] at q; exact q.elim
end
end AM

/-! AM18: comparisons in a chain as values, products, the head's facts, the end of a law. -/
namespace AM
open PySem PySem.Spec PyProof.Rows L2
noncomputable section
variable {X : Cx} {W : WX} {K : PySem.W.Frag}
theorem w_chain {op op' : CmpOp} {r r' : R2} {f g : CmpF} {a b c : Expr} {ma mb mc : EM} {pos : Pos} (ho : OpR X (compareOp op) r) (hs : CmpS X.K r f) (ho' : OpR X (compareOp op') r') (hs' : CmpS X.K r' g) (ha : PEm X W a ma) (hb : PEm X W b mb) (hc : PEm X W c mc)
    (hm : lastMarks [op, op'] [b, c] = false := by with_unfolding_all rfl) : PEm X W (.Compare a [op, op'] [b, c] pos) (eCh f g ma mb mc) := by
  refine PE_imp (pe_chain ho ho' ha hb hc hm) fun s H Q q => ?_
  obtain ⟨as, h, t, rh, rs, q⟩ := q
  have q := Post.bind (R := fun _ _ (a b : Bool) => a = b) (o := tCh f g ma mb mc t h) q
  have q2 : Post (fun _ _ (a b : Bool) => a = b) X.K W s as H (tCh f g ma mb mc t h) (fun k H2 => Q (.bl k) H2) := q.mono fun k H2 z => by
    obtain ⟨as1, h1, a, x1, r1, e1, q1⟩ := z
    subst e1
    exact Post.done q1 (Ext.refl _ _) r1 rfl
  unfold tCh at q2
  refine ⟨as, h, t, rh, rs, (Post.bind (R := Rep X.K) q2).mono fun v H1 z => ?_⟩
  obtain ⟨as1, h1, p, x1, r1, e1, q1⟩ := z
  refine ⟨as1, h1, t, r1, rs.mono x1, (Post.bind (R := Rep X.K) q1).mono fun v2 H2 z => ?_⟩
  obtain ⟨as2, h2, p2, x2, r2, e2, q2⟩ := z
  unfold cmpV at q2
  split at q2
  · rename_i k e
    refine hs r2 (e1.mono x2) e2 e ⟨k, rfl, ?_⟩
    cases k with
    | true =>
      rw [if_pos rfl]
      refine ⟨as2, h2, t, r2, rs.mono (x1.trans x2), (Post.bind (R := Rep X.K) (o := mc t h2) (f := fun z h4 => cmpV g p2 z h4) q2).mono fun v3 H3 z => ?_⟩
      obtain ⟨as3, h3, p3, x3, r3, e3, q3⟩ := z
      unfold cmpV at q3
      split at q3
      · rename_i k2 e4
        exact hs' r3 (e2.mono x3) e3 e4 (Post.done (R := fun _ _ (a b : Bool) => a = b) q3 (Ext.refl _ _) r3 rfl)
      · exact q3.elim
    | false =>
      rw [if_neg Bool.false_ne_true]
      exact Post.done (R := fun _ _ (a b : Bool) => a = b) q2 (Ext.refl _ _) r2 rfl
  · exact q2.elim
/-- int * int, tuple * int -/
def rMulA (K : PySem.W.Frag) : R2 := fun x y H Q => rI CMulW (fun i j => .int (i * j)) x y H Q ∨ rRepT K x y H Q
theorem or_mul : OpR X (binaryOp .Mult) (rMulA X.K) := op_mulW.or op_repT
def vMul : F2 := orF2 vMulI vMulT
theorem sn_mul : Snd2 K (rMulA K) vMul := Snd2.or sn_mulI sn_mulT
end

/-! ### the head: what is asked of the module's part of the heap -/
abbrev Ck : Type := PySem.W.Frag → Bool
structure DefA where
  at_ : PySem.W.Frag → Addr
  name : Str
  qual : Str
  params : Arguments
  body : List Stmt
  scope : Scope
def fnA (K : PySem.W.Frag) (a : Addr) : He.FnW := match K.lookup a with
  | some ⟨_, _, .func fd, _⟩ => some (fd.name, fd.qualname, fd.params, fd.body, fd.scope, fd.globals, fd.closure, fd.builtins)
  | _ => none
def DefA.val (d : DefA) : He.FnW := some (d.name, d.qual, d.params, .stmts d.body, d.scope, mainGlobals, [], builtinsNs)
def isNo : Value → Bool
  | .none => true
  | _ => false
def DefA.ok (K : PySem.W.Frag) (d : DefA) : Bool := PySem.W.keepIn K (.ref (d.at_ K)) && (match K.lookup (d.at_ K) with
  | some ⟨_, _, .func fd, _⟩ => PySem.W.codeIn K fd.code d.qual && isNo fd.defaults
  | _ => false)
theorem DefA.funD {K : PySem.W.Frag} {d : DefA} (e : fnA K (d.at_ K) = d.val) (c : d.ok K = true) : ∃ fd, FunD K d.name d.qual d.params d.body d.scope [] [] (d.at_ K) fd := by
  obtain ⟨kp, c2⟩ := He.ba c
  unfold fnA at e
  cases q : K.lookup (d.at_ K) with
  | none => rw [q] at c2; cases c2
  | some o =>
    obtain ⟨oc, od, dt, osl⟩ := o
    rw [q] at c2 e
    cases dt with
    | func fd =>
      obtain ⟨m1, m2, m3, m4, m5, m6, m7, m8, m9, m10, m11, m12, m13, m14, m15⟩ := fd
      have e2 : (some (m1, m2, m3, m4, m5, m6, m7, m15) : He.FnW) = some (d.name, d.qual, d.params, .stmts d.body, d.scope, mainGlobals, [], builtinsNs) := e
      simp only [Option.some.injEq, Prod.mk.injEq] at e2
      obtain ⟨rfl, rfl, rfl, rfl, rfl, rfl, rfl, rfl⟩ := e2
      have c3 : (PySem.W.codeIn K m13 d.qual && isNo m8) = true := c2
      obtain ⟨k1, k2⟩ := He.ba c3
      have k3 : m8 = .none := by
        cases m8 <;> first | rfl | cases k2
      exact ⟨_, ⟨oc, od, m8, m9, m10, m11, m12, m13, m14, osl, rfl, q, k1, .inl ⟨rfl, k3⟩, .inl rfl⟩, kp⟩
    | _ => cases c2
def obsA (cs : List Ck) (fn : List DefA) (K : PySem.W.Frag) : He.AlD := ((cs.all fun f => f K) && fn.all fun d => d.ok K, fn.map fun d => fnA K (d.at_ K))
def valA (fn : List DefA) : He.AlD := (true, fn.map DefA.val)
def SaysA (cs : List Ck) (fn : List DefA) (K : PySem.W.Frag) : Prop := obsA cs fn K = valA fn
def obsAG (n : Nat) (cs : List Ck) (fn : List DefA) (g : Addr → Option Obj) : He.AlD := obsA cs fn (He.frG g (He.asD g n))
def hookA (n : Nat) (cs : List Ck) (fn : List DefA) : PySem.W.Hook where
  α := He.AlD
  obs := fun s => obsAG n cs fn s.heap.get?
  val := fun _ => valA fn
  says := fun _ h => ∃ K : PySem.W.Frag, K.In h ∧ SaysA cs fn K
  of := fun _ _ e => ⟨_, He.frG_in, e⟩
  keeps := fun _ _ _ ⟨K, hK, c⟩ k => ⟨K, PySem.W.Frag.In.keeps hK k, c⟩
theorem obsAG_eq {n : Nat} {cs : List Ck} {fn : List DefA} {g : Addr → Option Obj} {s : Shared} (h : ∀ a, g a = s.heap.get? a) : obsAG n cs fn g = (hookA n cs fn).obs s := by
  have e : g = s.heap.get? := funext h
  rw [e] <;> rfl
section
variable {cs : List Ck} {fn : List DefA} {K : PySem.W.Frag}
theorem SaysA.ck (c : SaysA cs fn K) (i : Nat) {f : Ck} (h : cs[i]? = some f := by rfl) : f K = true := by
  have c1 := (He.ba (show ((cs.all fun f => f K) && fn.all fun d => d.ok K) = true from congrArg (fun z : He.AlD => z.1) c)).1
  exact List.all_eq_true.mp c1 f (List.mem_of_getElem? h)
theorem SaysA.df (c : SaysA cs fn K) (i : Nat) {d : DefA} (h : fn[i]? = some d := by rfl) : ∃ fd, FunD K d.name d.qual d.params d.body d.scope [] [] (d.at_ K) fd := by
  have c2 := (He.ba (show ((cs.all fun f => f K) && fn.all fun d => d.ok K) = true from congrArg (fun z : He.AlD => z.1) c)).2
  have e : fn.map (fun d => fnA K (d.at_ K)) = fn.map DefA.val := congrArg (fun z : He.AlD => z.2) c
  have e2 : (fn.map fun d => fnA K (d.at_ K))[i]? = (fn.map DefA.val)[i]? := by rw [e]
  rw [List.getElem?_map, List.getElem?_map, h] at e2
  exact DefA.funD (Option.some.inj e2) (List.all_eq_true.mp c2 d (List.mem_of_getElem? h))
end

/-! ### places of defs, checks -/
def atG (x : Str) : PySem.W.Frag → Addr := fun K => He.ga K x
def atM (C m : Str) : PySem.W.Frag → Addr := fun K => He.ma K (He.ga K C) m
/-- a property's getter -/
def atP (C m : Str) : PySem.W.Frag → Addr := fun K => match PySem.W.recIn K (He.ma K (He.ga K C) m) "property" with
  | some (.ref g :: _) => g
  | _ => 0
def eqV (a b : Option Value) : Bool := decide (a = b)
/-- the name x stands for an object -/
def ckG (x : Str) : Ck := fun K => He.eqO (PySem.W.nsIn K mainGlobals x) (some (some (.ref (He.ga K x))))
/-- the name is left to the built-in ones -/
def ckF (x : Str) : Ck := fun K => He.eqO (PySem.W.nsIn K mainGlobals x) (some none)
/-- a constant -/
def relP (K : PySem.W.Frag) : P → Value → Bool
  | .non, .none => true
  | .bl b, .bool c => b == c
  | .int i, .int j _ => decide (i = j)
  | .str x, .str y _ => decide (x = y)
  | _, _ => false
theorem relP_ok {K : PySem.W.Frag} {p : P} {u : Value} (h : relP K p u = true) : ∃ v, RelV v u ∧ ∀ as H, Rep K as H p v := by
  unfold relP at h
  split at h
  · exact ⟨.non, rfl, fun _ _ => by unfold Rep; rfl⟩
  · rename_i b c
    have e : b = c := eq_of_beq h
    exact ⟨.bl b, by rw [e]; rfl, fun _ _ => by unfold Rep; rfl⟩
  · rename_i i j t
    have e : i = j := of_decide_eq_true h
    exact ⟨.int i, ⟨t, by rw [e]⟩, fun _ _ => by unfold Rep; rfl⟩
  · rename_i x y t
    have e : x = y := of_decide_eq_true h
    exact ⟨.str x, ⟨t, by rw [e]⟩, fun _ _ => by unfold Rep; rfl⟩
  · cases h
def relPs (K : PySem.W.Frag) : List P → List Value → Bool
  | [], [] => true
  | p :: ps, u :: us => relP K p u && relPs K ps us
  | _, _ => false
theorem relPs_ok {K : PySem.W.Frag} : ∀ {ps : List P} {us : List Value}, relPs K ps us = true → ∃ vs, Vals vs us ∧ ∀ as H, Reps K as H ps vs
  | [], [], _ => ⟨[], .nil, fun _ _ => reps_nil⟩
  | [], _ :: _, h => by cases h
  | _ :: _, [], h => by cases h
  | p :: ps, u :: us, h => by
    obtain ⟨h1, h2⟩ := He.ba (show (relP K p u && relPs K ps us) = true from h)
    obtain ⟨v, r1, r2⟩ := relP_ok h1
    obtain ⟨vs, r3, r4⟩ := relPs_ok h2
    exact ⟨v :: vs, .cons r1 r3, fun as H => reps_cons (r2 as H) (r4 as H)⟩
/-- x is the flat constant p -/
def ckC (x : Str) (p : P) : Ck := fun K => match PySem.W.nsIn K mainGlobals x with
  | some (some u) => relP K p u
  | _ => false
/-- x is the tuple of these flat constants -/
def ckT (x : Str) (ps : List P) : Ck := fun K => He.eqO (PySem.W.nsIn K mainGlobals x) (some (some (.ref (He.ga K x)))) && (match K.lookup (He.ga K x) with
  | some ⟨.type c, _, .seq its _, _⟩ => decide (c = "tuple") && (decide (its.size ≤ sizeLine) && relPs K ps its.toList)
  | _ => false)
section
variable {K : PySem.W.Frag} {h : Heap} {mg : Str → Option Value}
theorem ckG_ok (Y : K.In h) (G : h.Ns mainGlobals mg) {x : Str} (c : ckG x K = true) : mg x = some (.ref (He.ga K x)) := PySem.W.mg_of Y G (He.eqO_ok c)
theorem ckF_ok (Y : K.In h) (G : h.Ns mainGlobals mg) {x : Str} (c : ckF x K = true) : mg x = none := PySem.W.mg_none_of Y G (He.eqO_ok c)
theorem ckC_ok (Y : K.In h) (G : h.Ns mainGlobals mg) {x : Str} {p : P} (c : ckC x p K = true) : Glo K mg x p := by
  unfold ckC at c
  split at c
  · rename_i u e
    obtain ⟨v, r1, r2⟩ := relP_ok c
    exact ⟨⟨v, u, PySem.W.mg_of Y G e, r1, r2⟩⟩
  · cases c
theorem ckT_ok (Y : K.In h) (G : h.Ns mainGlobals mg) {x : Str} {ps : List P} (c : ckT x ps K = true) : Glo K mg x (.tup ps) := by
  obtain ⟨c1, c2⟩ := He.ba c
  have e := PySem.W.mg_of Y G (He.eqO_ok c1)
  split at c2
  · rename_i cl od its n sl lk
    obtain ⟨c3, c4⟩ := He.ba c2
    obtain ⟨c5, c6⟩ := He.ba c4
    obtain ⟨vs, r1, r2⟩ := relPs_ok c6
    refine ⟨⟨.ref (He.ga K x), _, e, rfl, fun as H => ?_⟩⟩
    unfold Rep
    exact ⟨_, vs, rfl, .inr ⟨_, its, n, lk, congrArg Value.type (of_decide_eq_true c3), rfl, of_decide_eq_true c5, r1⟩, r2 as H⟩
  · cases c2
end
/-- a class of the module with slots -/
def ckS (C : Str) : Ck := fun K => PySem.W.plainGet K (He.ga K C) Str.empty && (PySem.W.isClsIn K (He.ga K C) && (PySem.W.plainOver K (He.ga K C) && He.eqO (PySem.W.findIn K (.ref (He.ga K C)) "__setattr__") (some (some (.builtin "object.__setattr__")))))
theorem ckS_ok {K : PySem.W.Frag} {C : Str} (c : ckS C K = true) : SlX.SCls K (He.ga K C) := by
  obtain ⟨c1, c⟩ := He.ba c
  obtain ⟨c2, c⟩ := He.ba c
  obtain ⟨c3, c4⟩ := He.ba c
  exact ⟨c1, c2, c3, He.eqO_ok c4⟩
/-- its slot f, the i-th -/
def ckSl (C f : Str) (i : Nat) : Ck := fun K => He.eqO (PySem.W.findIn K (.ref (He.ga K C)) f) (some (some (.ref (He.ma K (He.ga K C) f)))) && (He.eqO (PySem.W.specialIn K (.ref (He.ma K (He.ga K C) f)) "__get__") (some (some (.builtin "member_descriptor.__get__"))) &&
  (decide (PySem.W.takesIn K (.ref (He.ma K (He.ga K C) f)) = some true) && (eqV (PySem.W.typeIn K (.ref (He.ma K (He.ga K C) f))) (some (.type "member_descriptor")) && (decide (PySem.W.slotIn K (He.ma K (He.ga K C) f) (He.ga K C) = some i) && decide (i < 1000)))))
theorem ckSl_ok {K : PySem.W.Frag} {C f : Str} {i : Nat} (s : ckS C K = true) (c : ckSl C f i K = true) : HasS K C f i := by
  obtain ⟨c1, c⟩ := He.ba c
  obtain ⟨c2, c⟩ := He.ba c
  obtain ⟨c3, c⟩ := He.ba c
  obtain ⟨c4, c⟩ := He.ba c
  obtain ⟨c5, c6⟩ := He.ba c
  exact ⟨ckS_ok s, _, He.eqO_ok c1, He.eqO_ok c2, of_decide_eq_true c3, of_decide_eq_true c4, of_decide_eq_true c5, of_decide_eq_true c6⟩
/-- its method m -/
def ckM (C m : Str) : Ck := fun K => He.eqO (PySem.W.findIn K (.ref (He.ga K C)) m) (some (some (.ref (He.ma K (He.ga K C) m)))) && (PySem.W.isFn K (.ref (He.ma K (He.ga K C) m)) && PySem.W.keepIn K (.ref (He.ma K (He.ga K C) m)))
theorem ckM_ok {K : PySem.W.Frag} {C m : Str} (c : ckM C m K = true) : Meth K (He.ga K C) m (He.ma K (He.ga K C) m) := by
  obtain ⟨c1, c⟩ := He.ba c
  obtain ⟨c2, c3⟩ := He.ba c
  exact ⟨He.eqO_ok c1, c2, c3⟩
/-- its instances -/
def ckN (C : Str) : Ck := fun K => PySem.W.makesIn K (He.ga K C) && (He.eqO (PySem.W.findIn K (.ref (He.ga K C)) "__init__") (some (some (.ref (He.ma K (He.ga K C) "__init__")))) && (PySem.W.isFn K (.ref (He.ma K (He.ga K C) "__init__")) && PySem.W.keepIn K (.ref (He.ga K C))))
theorem ckN_ok {K : PySem.W.Frag} {C : Str} (c : ckN C K = true) : Mk K (He.ga K C) (He.ma K (He.ga K C) "__init__") := by
  obtain ⟨c1, c⟩ := He.ba c
  obtain ⟨c2, c⟩ := He.ba c
  obtain ⟨c3, c4⟩ := He.ba c
  exact ⟨c1, He.eqO_ok c2, c3, c4⟩
/-- its property m -/
def ckP (C m : Str) : Ck := fun K => He.eqO (PySem.W.findIn K (.ref (He.ga K C)) m) (some (some (.ref (He.ma K (He.ga K C) m)))) && (He.eqO (PySem.W.specialIn K (.ref (He.ma K (He.ga K C) m)) "__get__") (some (some (.builtin "property.__get__"))) &&
  (decide (PySem.W.takesIn K (.ref (He.ma K (He.ga K C) m)) = some true) && (match PySem.W.recIn K (He.ma K (He.ga K C) m) "property" with
    | some (.ref _ :: _) => true
    | _ => false)))
theorem ckP_ok {K : PySem.W.Frag} {C m : Str} (c : ckP C m K = true) : PySem.W.findIn K (.ref (He.ga K C)) m = some (some (.ref (He.ma K (He.ga K C) m))) ∧ PySem.W.specialIn K (.ref (He.ma K (He.ga K C) m)) "__get__" = some (some (.builtin "property.__get__")) ∧
    PySem.W.takesIn K (.ref (He.ma K (He.ga K C) m)) = some true ∧ ∃ rest, PySem.W.recIn K (He.ma K (He.ga K C) m) "property" = some (.ref (atP C m K) :: rest) := by
  obtain ⟨c1, c⟩ := He.ba c
  obtain ⟨c2, c⟩ := He.ba c
  obtain ⟨c3, c4⟩ := He.ba c
  refine ⟨He.eqO_ok c1, He.eqO_ok c2, of_decide_eq_true c3, ?_⟩
  unfold atP
  split at c4
  · rename_i g rest e
    rw [e]
    exact ⟨rest, rfl⟩
  · cases c4
/-- no list in the module's part -/
def ckL : Ck := fun K => K.all fun p => !decide (p.2.cls = .type "list")
theorem ckL_ok {K : PySem.W.Frag} (c : ckL K = true) {a : Addr} {o : Obj} (e : K.lookup a = some o) : o.cls ≠ .type "list" := by
  unfold ckL at c
  rw [List.all_eq_true] at c
  have mem : ∀ {l : PySem.W.Frag}, l.lookup a = some o → ∃ p ∈ l, p.2 = o := by
    intro l
    induction l with
    | nil => intro e; cases e
    | cons p l ih =>
      obtain ⟨b, u⟩ := p
      intro e
      rw [List.lookup_cons] at e
      split at e
      · cases e
        exact ⟨_, List.mem_cons_self .., rfl⟩
      · obtain ⟨q, hq, e2⟩ := ih e
        exact ⟨q, List.mem_cons_of_mem _ hq, e2⟩
  obtain ⟨p, hp, e2⟩ := mem e
  have z := c p hp
  rw [e2] at z
  simpa using z
end AM

/-! AM19: the end of a law. -/
namespace AM
open PySem PySem.Spec PyProof.Rows L2
/-- the law's def answers True at the script -/
def LawIs (m : Fn) (ns : List Int) : Prop := ∃ h, m [.scr (ns.map P.int)] [] = .ok (.bl true) h
theorem reps_ints {K : PySem.W.Frag} {as : List Addr} {H : Hp} : ∀ ns : List Int, Reps K as H (ns.map P.int) (ns.map V.int)
  | [] => reps_nil
  | n :: ns => reps_cons (by unfold Rep; rfl) (reps_ints ns)
theorem law_end {P0 : Program} {w : World} {K : PySem.W.Frag} {mg mb : Str → Option Value} {k : Nat} {fa a : Addr} {fd : FuncData} {x : Str} {m : Fn} {s1 : Shared} {vs : List Value} {ns : List Int}
    (KX : K.In s1.heap) (hns : s1.heap.Ns mainGlobals mg) (hb : s1.heap.Ns builtinsNs mb) (hbb : ∀ x : Str, x ≠ "__name__" → mb x = bootBuiltins x) (hlim : s1.heap.NoLimit) (hg : s1.gens = #[])
    (ha : s1.heap.get? a = some { cls := .type "list", data := .seq vs.toArray }) (hi : IntsAre vs ns) (hl : ns.length ≤ sizeLine) (nk : ckL K = true) (hr : Room k callerA)
    (F : ∀ base : Heap, K.In base → base.Ns mainGlobals mg → FnG P0 w K mg base k fa fd [x] (spOf K 1 m)) (bind : ∀ (s : Shared) (u : Value), BindsTo s fd ⟨[u], []⟩ [(x, u)]) (hm : LawIs m ns) :
    codeAny (model P0 w) callerA (.call (.ref fa) ⟨[.ref a], []⟩) (fun r s' => r = .ok (.ret (.bool true)) ∧ OldK s1.heap s'.heap ∧ s'.os = s1.os ∧ AllBare s'.gens) s1 := by
  obtain ⟨hz, hm⟩ := hm
  have rv := vals_ints hi
  have ka : K.lookup a = none := by
    cases e : K.lookup a with
    | none => rfl
    | some o =>
      have z := KX a o e
      rw [ha] at z
      cases z
      exact absurd rfl (ckL_ok nk e)
  let ob : Obj := { cls := .type "list", data := .seq vs.toArray }
  let H0 : Hp := fun b => if b = a then some (.frz ob (.lst (ns.map V.int))) else none
  have at_a : H0 a = some (.frz ob (.lst (ns.map V.int))) := if_pos rfl
  have off_a : ∀ {b : Addr}, b ≠ a → H0 b = none := fun n => if_neg n
  have hidden : ∀ {b : Addr} {o : Obj}, s1.heap.get? b = some o → b ≠ a → (hidT s1.heap H0).get? b = some o := fun e n => hidT_get e (off_a n)
  have noD : ∀ {b : Addr} {o : Obj} {es : Array DictEntry} {ep : Nat}, s1.heap.get? b = some o → o.data = .dict es ep → b ≠ a := fun {b o es ep} e d z => by
    subst z
    rw [ha] at e
    cases e
    cases (show Data.seq vs.toArray _ = Data.dict es ep from d)
  have names : ∀ {b : Addr} {q : Str → Option Value}, s1.heap.Ns b q → (hidT s1.heap H0).Ns b q := fun {b q} z => by
    obtain ⟨o, es, ep, e, d, r⟩ := z
    exact ⟨o, es, ep, hidden e (noD e d), d, r⟩
  have inK : K.In (hidT s1.heap H0) := fun b o e => hidden (KX b o e) fun z => by
    subst z
    rw [ka] at e
    cases e
  have mod : Mod K mg (hidT s1.heap H0) := ⟨inK, names hns, ⟨mb, names hb, hbb⟩, let ⟨q, z1, z2⟩ := hlim; ⟨q, names z1, z2⟩⟩
  have okH : HOk P0 w H0 s1.heap := fun b u z => by
    by_cases e : b = a
    · subst e
      rw [at_a] at z
      cases z
      exact ⟨ha, by rw [List.length_map]; exact hl, vs, _, rv, ha⟩
    · rw [off_a e] at z
      cases z
  have env : Env0 P0 w K mg (hidT s1.heap H0) callerA [] s1 H0 := ⟨rfl, mod, fun b o e => of_hidT e, Nat.le_of_eq (hidT_size _ _), trivial, fun b hb => (List.not_mem_nil hb).elim, okH, .of_eq hg⟩
  have rel : RelH K [] [] H0 := ⟨rfl, List.nodup_nil, fun n o e => by simp at e⟩
  have rs : Reps K [] H0 [.scr (ns.map P.int)] [.ref a] := reps_cons (by unfold Rep; exact ⟨a, _, ob, rfl, by simp, at_a, reps_ints ns⟩) reps_nil
  refine codeAny_mono ((F _ inK (names hns)).run callerA [] s1 H0 ⟨[.ref a], []⟩ [.ref a] [.ref a] (fun v _ => v = .bl true) (fun _ _ _ => False) hr rfl env (bind s1 (.ref a)) (.cons rfl .nil)
    ⟨[], [], _, rel, rs, rfl, by rw [hm]; exact fun as2 H2 b _ _ e => by unfold Rep at e; exact e⟩) fun r s2 z => ?_
  cases r with
  | error e =>
    obtain ⟨_, _, _, _, _, _, _, _, _, _, _, _, no⟩ := z
    exact no.elim
  | ok fl =>
    cases fl with
    | next => exact z.elim
    | brk => exact z.elim
    | cont => exact z.elim
    | ret u =>
      obtain ⟨v, H2, os, bare, un, ok2, r2, q⟩ := z
      subst q
      obtain rfl : u = Value.bool true := r2
      refine ⟨rfl, OldK.of_keep fun b o e => ?_, os, bare⟩
      by_cases eb : b = a
      · subst eb
        have z2 := un.frzs b _ _ at_a
        have e1 := (okH b _ at_a).1
        rw [e] at e1
        cases e1
        exact (ok2 b _ z2).1
      · exact un.keep b o e (off_a eb) (fun z => (List.not_mem_nil z).elim) (List.not_mem_nil)
theorem law_walk {l : PySem.W.OpenLaw} {n k : Nat} {q : Program} {loose : List Str} {XP : (Str → Option Value) → Heap → Prop} {YP : World → Heap → Prop} {d : DefRec} {x : Str} {m : Fn}
    (hn : l.most = some n) (hn2 : n ≤ sizeLine) (hdf : d.params.defaults = []) (hr : Room k callerA)
    (F : ∀ (w : World) (mg : Str → Option Value) (fa : Addr) (h : Heap), YP w h → h.Ns mainGlobals mg → mg d.name = some (.ref fa) →
      ∃ (K : PySem.W.Frag) (fd : FuncData), K.In h ∧ ckL K = true ∧ (∀ (s : Shared) (u : Value), BindsTo s fd ⟨[u], []⟩ [(x, u)]) ∧ ∀ base : Heap, K.In base → base.Ns mainGlobals mg → FnG l.prog w K mg base k fa fd [x] (spOf K 1 m))
    (hm : ∀ ns : List Int, ns.length ≤ n → (∀ z ∈ ns, Builtin.Int.intBits z ≤ 1048576) → LawIs m ns) :
    PySem.W.WalkO q loose XP YP l.row.toRowW d [] (fun f vs => PySem.call f vs) := by
  refine Att.attach_callB hn hdf fun w s0 s1 mg mb fa o pm cd doc a vs ns G Y ho hd hcd hmg hobj hints hlen hbits hg => ?_
  obtain ⟨K, fd, KX, nk, hb, hF⟩ := F w mg fa _ Y G.T.g hmg
  exact law_end KX G.T.g G.T.b G.T.builtins G.T.nolimit hg hobj hints (Nat.le_trans hlen hn2) nk hr hF hb (hm ns hlen hbits)
theorem Here.mono {X : Cx} {j k : Nat} (h : Here X k) (l : j ≤ k) : Here X j := ⟨h.room.mono l, h.gd⟩
theorem Here.blk {X : Cx} {k : Nat} (h : Here X k) (s : Shared) (H : Hp) (scope : Scope) (env : Env) (fp : List Addr) : Here (X.blk s H scope env fp) k := ⟨h.room, h.gd⟩
end AM

/-! AM20: unpacking of tuples and lists alike. -/
namespace AM
open PySem PySem.Spec PyProof.Rows L2
noncomputable section
variable {X : Cx} {W : WX} {K : PySem.W.Frag}
def gU (n : Nat) (r : GMs) : GM := fun p t h => match p with
  | .tup xs => if xs.length = n then r xs t h else none
  | p => gL n r p t h
theorem PG_two {tg : Expr} {t t1 t2 : TG} (h1 : PG X tg t1) (h2 : PG X tg t2) (i : ∀ v s H Q, t v s H Q → t1 v s H Q ∨ t2 v s H Q) : PG X tg t := ⟨fun pins s σ H v u Q I r q => by
  rcases i _ _ _ _ q with q | q
  · exact h1.run pins s σ H v u Q I r q
  · exact h2.run pins s σ H v u Q I r q⟩
theorem wg_unp {es : List Expr} {k : Nat} {pos : Pos} {r : GMs} {n : Nat} (hc : X.calm = true) (hr : PGms X es r) (hn : (assignEach es X.env).length = n := by rfl) (hst : (assignEach es X.env).findIdx? (·.1) = none := by rfl) : PGm X (.Tuple es k pos) (gU n r) := by
  refine PG_two (wg_tup hc hr hn hst) (wg_lst hc hr hn hst) fun v s H Q q => ?_
  obtain ⟨as, h, t, p, rh, rs, rp, q⟩ := q
  unfold gU at q
  split at q
  · exact .inl ⟨as, h, t, _, rh, rs, rp, q⟩
  · exact .inr ⟨as, h, t, _, rh, rs, rp, q⟩
end
/-- a class's member -/
def memS (c : Stmt) (j : Nat) : Stmt := match c with
  | .ClassDef _ _ _ body _ _ _ _ _ _ _ => body.getD j (.Pass ⟨0, 0, 0, 0⟩)
  | _ => .Pass ⟨0, 0, 0, 0⟩
end AM

/-! AM21: rows so many times; lists of ranges; dicts that are written out. -/
namespace AM
open PySem PySem.Spec PyProof.Rows L2
theorem tuple_mulS (l : Addr) (items : Array Value) (n : Nat) (dd : Option Addr) (sl : Array (Option Value)) (x : Int) (u : Tok) (c0 : (decide (x < -(2 ^ 63)) || decide (x ≥ 2 ^ 63)) = false) (c1 : (items.isEmpty || x == 1) = true) :
    Meets (Builtin.«tuple.__mul__» ⟨[.ref l, .int x u], []⟩) (fun _ R s => s.heap.get? l = some { cls := .type "tuple", dict := dd, data := .seq items n, slots := sl } ∧
      R (.ok (.ret (Value.ref l))) s) :=
  .of_wp fun prog w A R s h => by
    obtain ⟨hp, g, d, tk, os⟩ := s
    obtain ⟨hl, h⟩ := h
    have f1 := AutoSeq1.idx_int
    wp_walk using wpAny_loadPart' hl
    repeat (first
      | (refine wpAny_ite_false (decide_eq_false (by rw [c0]; exact Bool.false_ne_true)) ?_; wp_walk using wpAny_loadPart' hl)
      | (refine wpAny_ite_true (decide_eq_true c1) ?_; wp_walk using wpAny_loadPart' hl))
    exact ⟨_, rfl, h⟩
theorem tuple_mul0 (l : Addr) (items : Array Value) (n : Nat) (dd : Option Addr) (sl : Array (Option Value)) (x : Int) (u : Tok) (c0 : (decide (x < -(2 ^ 63)) || decide (x ≥ 2 ^ 63)) = false) (c1 : (items.isEmpty || x == 1) = false) (c2 : (decide (x ≤ 0) || items.isEmpty) = true) :
    Meets (Builtin.«tuple.__mul__» ⟨[.ref l, .int x u], []⟩) (fun _ R s => s.heap.get? l = some { cls := .type "tuple", dict := dd, data := .seq items n, slots := sl } ∧
      R (.ok (.ret (Value.ref s.heap.objs.size))) { s with heap := s.heap.push { cls := Value.type "tuple", data := Data.seq #[] }, toks := s.toks }) :=
  .of_wp fun prog w A R s h => by
    obtain ⟨hp, g, d, tk, os⟩ := s
    obtain ⟨hl, h⟩ := h
    have f1 := AutoSeq1.idx_int
    wp_walk using wpAny_loadPart' hl
    repeat (first
      | (refine wpAny_ite_false (decide_eq_false (by rw [c0]; exact Bool.false_ne_true)) ?_; wp_walk using wpAny_loadPart' hl)
      | (refine wpAny_ite_false (decide_eq_false (by rw [c1]; exact Bool.false_ne_true)) ?_; wp_walk using wpAny_loadPart' hl)
      | (refine wpAny_ite_true (decide_eq_true c2) ?_; wp_walk using wpAny_loadPart' hl))
    exact ⟨_, rfl, h⟩
def rRepS (K : PySem.W.Frag) : R2 := fun x y H Q => ∃ l k xs, x = .ref l ∧ y = .int k ∧ SqT K H l xs ∧ (xs = [] ∨ k = 1) ∧ -(2 ^ 63) ≤ k ∧ k < 2 ^ 63 ∧ Q (.ref l) H
def rRep0 (K : PySem.W.Frag) : R2 := fun x y H Q => ∃ l k xs, x = .ref l ∧ y = .int k ∧ SqT K H l xs ∧ xs ≠ [] ∧ k ≤ 0 ∧ -(2 ^ 63) ≤ k ∧ ∀ p, H p = none → Q (.ref p) (upd H p (.tup []))
section
variable {X : Cx}
theorem op_repS : OpR X (binaryOp .Mult) (rRepS X.K) := by
  intro pins s σ H x y v u Q I rx ry h
  obtain ⟨l, k, xs, rfl, rfl, hT, hne, h1, h2, q⟩ := h
  cases rx
  obtain ⟨t, rfl⟩ := ry
  obtain ⟨its, r, ⟨⟨cls, dd, data, sl⟩, ho, hc, n, hd⟩, hs⟩ := I.tuple hT
  simp only at hc hd
  subst hc hd
  have hle : its.length = xs.length := r.length.symm
  have c0 : (decide (k < -(2 ^ 63)) || decide (k ≥ 2 ^ 63)) = false := by
    rw [decide_eq_false (by omega), decide_eq_false (by omega)] <;> rfl
  have c1 : (its.toArray.isEmpty || k == 1) = true := by
    rcases hne with e | e
    · rw [e] at hle
      rw [List.eq_nil_of_length_eq_zero hle]
      rfl
    · rw [e]
      simp
  refine wpAny_binaryOp_repeat_ref (T := "tuple") (U := "int") (by decide) ⟨_, ho, rfl⟩ (fun s' => typeIs_int s' k t) noFill_tuple_mul F.fills_int_mul F.slot_int_rmul repeat_tuple F.slot_int_index.lookup
    (call_meets F.slot_int_rmul (typeIs_int s k t) F.entry_int_rmul (F.args_int_rmul_2 _ _) (int_rmul_tuple k t l its.toArray n dd sl)
      ⟨ho, rfl, ⟨_, ho, rfl⟩, call_meets F.slot_tuple_mul ⟨_, ho, rfl⟩ F.entry_tuple_mul (F.args_tuple_mul_2 _ _) (tuple_mulS l its.toArray n dd sl k t c0 c1) ⟨ho, ?_⟩⟩)
  exact ⟨.ref l, H, I, rfl, q⟩
theorem op_rep0 : OpR X (binaryOp .Mult) (rRep0 X.K) := by
  intro pins s σ H x y v u Q I rx ry h
  obtain ⟨l, k, xs, rfl, rfl, hT, hne, h1, h2, q⟩ := h
  cases rx
  obtain ⟨t, rfl⟩ := ry
  obtain ⟨its, r, ⟨⟨cls, dd, data, sl⟩, ho, hc, n, hd⟩, hs⟩ := I.tuple hT
  simp only at hc hd
  subst hc hd
  have hle : its.length = xs.length := r.length.symm
  have hn : its ≠ [] := fun e => hne (by
    rw [e] at hle
    exact List.eq_nil_of_length_eq_zero hle.symm)
  have hi : its.toArray.isEmpty = false := by
    cases its with
    | nil => exact absurd rfl hn
    | cons a b => rfl
  have c0 : (decide (k < -(2 ^ 63)) || decide (k ≥ 2 ^ 63)) = false := by
    rw [decide_eq_false (by omega), decide_eq_false (by omega)] <;> rfl
  have c1 : (its.toArray.isEmpty || k == 1) = false := by
    rw [hi, Bool.false_or]
    exact beq_eq_false_iff_ne.mpr (by omega)
  have c2 : (decide (k ≤ 0) || its.toArray.isEmpty) = true := by
    rw [decide_eq_true h1]
    rfl
  refine wpAny_binaryOp_repeat_ref (T := "tuple") (U := "int") (by decide) ⟨_, ho, rfl⟩ (fun s' => typeIs_int s' k t) noFill_tuple_mul F.fills_int_mul F.slot_int_rmul repeat_tuple F.slot_int_index.lookup
    (call_meets F.slot_int_rmul (typeIs_int s k t) F.entry_int_rmul (F.args_int_rmul_2 _ _) (int_rmul_tuple k t l its.toArray n dd sl)
      ⟨ho, rfl, ⟨_, ho, rfl⟩, call_meets F.slot_tuple_mul ⟨_, ho, rfl⟩ F.entry_tuple_mul (F.args_tuple_mul_2 _ _) (tuple_mul0 l its.toArray n dd sl k t c0 c1 c2) ⟨ho, ?_⟩⟩)
  refine ⟨.ref s.heap.objs.size, _, I.laid (t' := s.toks) (o := .tup []) (fun b ob q => Heap.get?_push_of_some _ q) (Nat.le_refl _) ?_, rfl, q _ (I.hok.fresh (Nat.le_refl _))⟩
  exact ⟨Nat.zero_le _, [], .nil, IsTup.new _ _⟩
end
section
variable {K : PySem.W.Frag}
def vMulS : F2 := fun p q h => match p, q with
  | .tup xs, .int k => if (xs.isEmpty = true ∨ k = 1) ∧ -1000000 ≤ k ∧ k ≤ 1000000 then .ok (.tup xs) h else .bad
  | _, _ => .bad
def vMul0 : F2 := fun p q h => match p, q with
  | .tup xs, .int k => if xs.isEmpty = false ∧ k ≤ 0 ∧ -1000000 ≤ k then .ok (.tup []) h else .bad
  | _, _ => .bad
def vMulL (b : Bool) : F2 := fun p q h => match lstOf h p, q with
  | some xs, .int k => if -1000000 ≤ k ∧ k ≤ 1000000 ∧ small (xs.length * k.toNat) = true then mkL b (List.replicate k.toNat xs).flatten h else .bad
  | _, _ => .bad
theorem sn_mulS : Snd2 K (rRepS K) vMulS := fun {W s as h H p q v w Q} rh rp rq z => by
  unfold vMulS at z
  split at z
  · rename_i xs k
    split at z
    · rename_i l
      unfold Rep at rp
      have rp0 := rp
      obtain ⟨a, vs, rfl, ta, ra⟩ := rp
      cases rq
      refine ⟨a, k, vs, rfl, rfl, ta.sq, ?_, by omega, by omega, Post.done z (Ext.refl _ _) rh ?_⟩
      · rcases l.1 with e | e
        · have e : xs = [] := List.isEmpty_iff.mp e
          subst e
          exact .inl (reps_inv0 ra)
        · exact .inr e
      · unfold Rep
        exact ⟨a, vs, rfl, ta, ra⟩
    · exact z.elim
  · exact z.elim
theorem sn_mul0 : Snd2 K (rRep0 K) vMul0 := fun {W s as h H p q v w Q} rh rp rq z => by
  unfold vMul0 at z
  split at z
  · rename_i xs k
    split at z
    · rename_i l
      unfold Rep at rp
      obtain ⟨a, vs, rfl, ta, ra⟩ := rp
      cases rq
      refine ⟨a, k, vs, rfl, rfl, ta.sq, ?_, l.2.1, by omega, fun p e => post_tup rh reps_nil z p e⟩
      intro e
      have := ra.len
      rw [e] at this
      have e2 := List.eq_nil_of_length_eq_zero this
      rw [e2] at l
      exact Bool.noConfusion l.1
    · exact z.elim
  · exact z.elim
theorem sn_mulL {b : Bool} : Snd2 K rRep (vMulL b) := fun {W s as h H p q v w Q} rh rp rq z => by
  unfold vMulL at z
  split at z
  · rename_i xs k z1
    split at z
    · rename_i l
      obtain ⟨a, vs, rfl, h1, h2⟩ := lstOf_ok rh rp z1
      cases rq
      exact ⟨a, k, vs, rfl, rfl, h1, by omega, by omega, by rw [← h2.len]; exact small_ok l.2.2, fun p e => post_mk rh (h2.rep _) z p e⟩
    · exact z.elim
  · exact z.elim
def vMulA (b : Bool) : F2 := orF2 (orF2 (orF2 vMul vMulS) vMul0) (vMulL b)
def rMulB (K : PySem.W.Frag) : R2 := fun x y H Q => ((rMulA K x y H Q ∨ rRepS K x y H Q) ∨ rRep0 K x y H Q) ∨ rRep x y H Q
theorem or_mulB {X : Cx} : OpR X (binaryOp .Mult) (rMulB X.K) := ((or_mul.or op_repS).or op_rep0).or op_rep
theorem sn_mulB {b : Bool} : Snd2 K (rMulB K) (vMulA b) := Snd2.or (Snd2.or (Snd2.or sn_mul sn_mulS) sn_mul0) sn_mulL
end
/-! ### list(range(..)) -/
section
variable {X : Cx} {W : WX}
def eLR (b : Bool) (m : EM) : EM := fun t h => (m t h).bind fun p h1 => match p with
  | .int j => if -1000000 ≤ j ∧ j ≤ 1000000 then mkL b (rgS 0 j).xs h1 else .bad
  | _ => .bad
theorem reps_rg {K : PySem.W.Frag} {as : List Addr} {H : Hp} (lo hi : Int) : Reps K as H (rgS lo hi).xs (rgV lo hi) := by
  unfold rgS rgV
  generalize List.range (hi - lo).toNat = l
  induction l with
  | nil => exact reps_nil
  | cons a l ih =>
    refine reps_cons ?_ ih
    unfold Rep
    rfl
theorem w_listR (b : Bool) {a : Expr} {m : EM} {p1 p2 p3 p4 : Pos} (hc : X.calm = true) (hm : X.mg "list" = none) (hm2 : X.mg "range" = none) (ha : PEm X W a m) (hg : Gl X "list" := by rfl) (hg2 : Gl X "range" := by rfl)
    (na : starEach [a] X.env = (false, eval a X.env) :: starEach [] X.env := by rfl) (nb : starEach [.Call (.Name "range" p2) [a] [] p3] X.env = (false, eval (.Call (.Name "range" p2) [a] [] p3) X.env) :: starEach [] X.env := by rfl) :
    PEm X W (.Call (.Name "list" p1) [.Call (.Name "range" p2) [a] [] p3] [] p4) (eLR b m) := by
  refine PE_imp (pe_listRg hc hg hm (prg_1 hg2 hm2 ha na) nb) fun s H Q q => ?_
  obtain ⟨as, h, t, rh, rs, q⟩ := q
  refine ⟨as, h, t, rh, rs, (Post.bind (R := Rep X.K) q).mono fun v H1 z => ?_⟩
  obtain ⟨as1, h1, p, x1, r1, e1, q1⟩ := z
  split at q1
  · rename_i j
    split at q1
    · rename_i l
      cases e1
      exact ⟨j, rfl, ⟨by omega, by omega, by omega, by omega, by omega⟩, fun c e => post_mk r1 (reps_rg 0 j) q1 c e⟩
    · exact q1.elim
  · exact q1.elim
/-! ### dicts that are written out -/
def lD : List (Str × EM) → LM
  | [] => lN
  | (_, m) :: r => lC m (lD r)
def trsD (K : PySem.W.Frag) (W : WX) (l : List (Str × EM)) : List (TE × TE) := l.map fun z => (TEm K W (eC (.str z.1)), TEm K W z.2)
def RepD (K : PySem.W.Frag) (l : List (Str × EM)) (as : List Addr) (H : Hp) (ps : List P) (qs : List (V × V)) : Prop := qs.map (·.1) = l.map (fun z => V.str z.1) ∧ Reps K as H ps (qs.map (·.2))
theorem pairs_post {K : PySem.W.Frag} : ∀ {l : List (Str × EM)} {s : L2.St} {H : Hp} {Q : List (V × V) → Hp → Prop}, TG_ (RepD K l) K W (lD l) s H Q → tPairs (trsD K W l) s H Q
  | [], s, H, Q, q => by
    obtain ⟨as, h, t, rh, rs, q⟩ := q
    exact q as H [] (Ext.refl _ _) rh ⟨rfl, reps_nil⟩
  | (k, m) :: l, s, H, Q, q => by
    obtain ⟨as, h, t, rh, rs, q⟩ := q
    show TEm K W (eC (.str k)) s H fun x H1 => TEm K W m s H1 fun y H2 => tPairs (trsD K W l) s H2 fun ps H3 => Q ((x, y) :: ps) H3
    refine ⟨as, h, t, rh, rs, fun as1 H1 v x1 r1 e1 => ?_⟩
    have e1 : v = .str k := e1
    subst e1
    have q := q.ext x1
    refine ⟨as1, h, t, r1, rs.mono x1, (Post.bind (R := Rep K) q).mono fun y H2 z => ?_⟩
    obtain ⟨as2, h2, p, x2, r2, e2, q2⟩ := z
    refine pairs_post ⟨as2, h2, t, r2, (rs.mono x1).mono x2, (Post.bind (R := RepD K l) q2).mono fun qs H3 z => ?_⟩
    obtain ⟨as3, h3, ps, x3, r3, e3, q3⟩ := z
    refine Post.done q3 (Ext.refl _ _) r3 ⟨?_, ?_⟩
    · rw [List.map_cons, List.map_cons, e3.1]
    · exact reps_cons (e2.mono x3) e3.2
theorem wd_nil {pos : Pos} : PPs X pos [] [] (trsD X.K W []) := pps_nil
theorem wd_cons {pos p1 : Pos} {k : Str} {kx} {v : Expr} {ks : List (Option Expr)} {vs : List Expr} {m : EM} {l : List (Str × EM)} (hk : PEm X W (.Constant (.str k) kx p1) (eC (.str k))) (hv : PEm X W v m) (hr : PPs X pos ks vs (trsD X.K W l)) :
    PPs X pos (some (.Constant (.str k) kx p1) :: ks) (v :: vs) (trsD X.K W ((k, m) :: l)) := pps_cons hk hv hr
def keysD (l : List (Str × EM)) : List Key := l.map fun z => .inr z.1
def eDct (l : List (Str × EM)) : EM := fun t h => (lD l t (h ++ [.dct []])).bind fun xs h2 => match h2[h.length]? with
  | some (.dct []) => if xs.length = l.length then .ok (.obj h.length) (h2.set h.length (.dct ((keysD l).zip xs))) else .bad
  | _ => .bad
theorem putK_new {kvs : List (Key × V)} {k : Key} {p : V} (g : k ∉ kvs.map (·.1)) : putK kvs k p = kvs ++ [(k, p)] := by
  unfold putK
  rw [if_neg]
  intro z
  obtain ⟨a, m, e⟩ := List.any_eq_true.mp z
  exact g (List.mem_map.mpr ⟨a, m, of_decide_eq_true e⟩)
theorem merge_new : ∀ {more kvs : List (Key × V)}, ((kvs ++ more).map (·.1)).Nodup → mergeK kvs more = kvs ++ more
  | [], kvs, _ => by rw [List.append_nil]; rfl
  | p :: r, kvs, n => by
    have g : p.1 ∉ kvs.map (·.1) := fun m => by
      rw [List.map_append, List.nodup_append] at n
      exact n.2.2 _ m _ (List.mem_cons_self ..) rfl
    show mergeK (putK kvs p.1 p.2) r = _
    rw [putK_new g, merge_new (by rw [List.append_assoc]; exact n), List.append_assoc]
    rfl
theorem w_disp {pos : Pos} {keys : List (Option Expr)} {values : List Expr} {l : List (Str × EM)} (h : PPs X pos keys values (trsD X.K W l)) (n : (keysD l).Nodup) (ll : l.length ≤ 15) (hall : keys.all (·.isSome) = true := by rfl) (hl : keys.length = values.length := by rfl) (h0 : keys ≠ [] := by exact fun e => by cases e)
    (h15 : keys.length ≤ 15 := by decide) : PEm X W (.Dict keys values pos) (eDct l) := by
  refine PE_imp (pe_disp h hall hl h0 h15) fun s H Q q => ?_
  obtain ⟨as, h, t, rh, rs, q⟩ := q
  intro p e
  have x := Ext.push (o := .dK []) rh e
  have r0 := rh.push (o := .dK []) (u := .dct []) e ⟨[], upd_same, rfl, reps_nil⟩
  refine pairs_post ⟨as ++ [p], h ++ [.dct []], t, r0, rs.mono x, (Post.bind (R := RepD X.K l) (q.ext x)).mono fun qs H2 z => ?_⟩
  obtain ⟨as2, h2, ps, x2, r2, e2, q2⟩ := z
  split at q2
  · rename_i eh
    split at q2
    · rename_i ln
      have ep : as2[h.length]? = some p := x2.get (by rw [← rh.len]; simp)
      obtain ⟨ws, w1, w2, w3⟩ := r2.obj eh ep
      have w0 : ws = [] := List.map_eq_nil_iff.mp w2
      subst w0
      have lq : (qs.map (·.2)).length = l.length := by rw [← e2.2.len, ln]
      have kl : (keysD l).length = (qs.map (·.2)).length := by
        unfold keysD
        rw [List.length_map, lq]
      have kf : ((keysD l).zip (qs.map (·.2))).map (·.1) = keysD l := List.map_fst_zip (by omega)
      have ks : ((keysD l).zip (qs.map (·.2))).map (·.2) = qs.map (·.2) := List.map_snd_zip (by omega)
      refine ⟨w1, (keysD l).zip (qs.map (·.2)), ?_, ?_, ?_⟩
      · have e3 : qs.map (·.1) = (keysD l).map kV := by
          rw [e2.1]
          unfold keysD
          rw [List.map_map]
          rfl
        have z : ∀ (ks : List Key) (qs : List (V × V)), qs.map (·.1) = ks.map kV → qs = (ks.zip (qs.map (·.2))).map fun kv => (kV kv.1, kv.2) := by
          intro ks
          induction ks with
          | nil =>
            intro qs e
            have : qs = [] := List.map_eq_nil_iff.mp e
            subst this
            rfl
          | cons k ks ih =>
            intro qs e
            cases qs with
            | nil => cases e
            | cons q qs =>
              rw [List.map_cons, List.map_cons] at e
              obtain ⟨e1, e2⟩ := List.cons.inj e
              rw [List.map_cons, List.zip_cons_cons, List.map_cons, ← ih qs e2, ← e1]
        exact z _ _ e3
      · rw [List.length_zip]
        unfold keysD
        rw [List.length_map]
        omega
      · have m : mergeK [] ((keysD l).zip (qs.map (·.2))) = (keysD l).zip (qs.map (·.2)) := merge_new (by
          rw [List.nil_append, kf]
          exact n)
        rw [m]
        have xp : Ext as2 H2 as2 (upd H2 p (.dK ((keysD l).zip (qs.map (·.2))))) := Ext.put r2 ep
        refine Post.done q2 xp (r2.put ep ⟨_, upd_same, ?_, ?_⟩) ?_
        · rw [kf, List.map_fst_zip]
          unfold keysD
          rw [List.length_map]
          omega
        · rw [ks, List.map_snd_zip]
          · exact e2.2.mono xp
          · unfold keysD
            rw [List.length_map]
            omega
        · unfold Rep
          exact ⟨p, rfl, ep⟩
    · exact q2.elim
  · exact q2.elim
end
end AM

/-! AM22: the head, seen level by level. -/
namespace AM
open PySem PySem.Spec PyProof.Rows L2
/-- what is named by these, but for the module's names -/
def nextE (g : Addr → Option Obj) (as : List Addr) : List Addr := (as.flatMap fun a => match g a with
  | some o => He.refsD o
  | none => []).filter fun a => !(Nat.beq a mainGlobals || Nat.beq a builtinsNs)
def asE (g : Addr → Option Obj) : Nat → List Addr → List Addr
  | 0, as => as
  | n + 1, as => as ++ asE g n (nextE g as)
def obsEG (n : Nat) (cs : List Ck) (fn : List DefA) (g : Addr → Option Obj) : He.AlD := obsA cs fn (He.frG g (asE g n [mainGlobals]))
def hookE (n : Nat) (cs : List Ck) (fn : List DefA) : PySem.W.Hook where
  α := He.AlD
  obs := fun s => obsEG n cs fn s.heap.get?
  val := fun _ => valA fn
  says := fun _ h => ∃ K : PySem.W.Frag, K.In h ∧ SaysA cs fn K
  of := fun _ _ e => ⟨_, He.frG_in, e⟩
  keeps := fun _ _ _ ⟨K, hK, c⟩ k => ⟨K, PySem.W.Frag.In.keeps hK k, c⟩
theorem obsEG_eq {n : Nat} {cs : List Ck} {fn : List DefA} {g : Addr → Option Obj} {s : Shared} (h : ∀ a, g a = s.heap.get? a) : obsEG n cs fn g = (hookE n cs fn).obs s := by
  have e : g = s.heap.get? := funext h
  rw [e] <;> rfl
end AM

/-! AM23: a list and a tuple side by side. -/
namespace AM
open PySem PySem.Spec PyProof.Rows L2
/-- what an iterator ia over la does: at k it stands (P), what it walks stands (L) -/
structure Nx (ia la : Addr) (its : Array Value) (P : Heap → Nat → Prop) (L : Heap → Prop) : Prop where
  item : ∀ {prog : Program} {w : World} {A : Around} {E : Value → Shared → Prop} {s : Shared} {k : Nat} {x : Value} {Q : Value → Shared → Prop}, P s.heap k → L s.heap → its[k]? = some x →
    (∀ g, P g (k + 1) → Heap.SameBut ia s.heap g → Q x { s with heap := g }) → wpAny (model prog w) A (Builtin.SmallTypes.nextOf (.ref ia)) Q E s
  stop : ∀ {prog : Program} {w : World} {A : Around} {E : Value → Shared → Prop} {s : Shared} {k : Nat} {Q : Value → Shared → Prop}, A.handled = none → P s.heap k → L s.heap → its[k]? = none →
    (∀ g e, Heap.ExtBut ia s.heap g → (∃ o, g.get? e = some o ∧ o.cls = .type "StopIteration") → E (.ref e) { s with heap := g }) → wpAny (model prog w) A (Builtin.SmallTypes.nextOf (.ref ia)) Q E s
  pk : ∀ {g g' : Heap} {c : Addr} {k : Nat}, P g k → Heap.ExtBut c g g' → ia ≠ c → P g' k
  lk : ∀ {g g' : Heap} {c : Addr}, L g → Heap.ExtBut c g g' → la ≠ c → L g'
  lt : ∀ {g : Heap} {k : Nat}, P g k → ia < g.objs.size
theorem nx_list (ia la : Addr) (its : Array Value) : Nx ia la its (fun g k => g.IsListIter ia la k) (fun g => g.IsList la its) where
  item := fun p l e q => wpAny_nextOf_list_item p l e q
  stop := fun hh p l e q => wpAny_nextOf_list_end hh p l e q
  pk := fun p x n => p.extBut x n
  lk := fun l x n => l.extBut x n
  lt := fun p => let ⟨_, e, _⟩ := p; Heap.lt_size e
theorem nx_tup (ia la : Addr) (its : Array Value) : Nx ia la its (fun g k => g.IsTupleIter ia la k) (fun g => g.IsTuple la its) where
  item := fun p l e q => RZ.nextOf_tuple_item p l e q
  stop := fun hh p l e q => RZ.nextOf_tuple_end hh p l e q
  pk := fun p x n => p.extBut x n
  lk := fun l x n => l.extBut x n
  lt := fun p => let ⟨_, e, _⟩ := p; Heap.lt_size e
section
variable {prog : Program} {w : World} {A : Around} {E : Value → Shared → Prop} {s : Shared} {zz ti tu ia ib la lb : Addr} {us vs : Array Value} {Pa Pb : Heap → Nat → Prop} {La Lb : Heap → Prop} {ka kb : Nat} {p0 q0 : Value}
theorem any_zip_item (D : ZipApart zz ti tu ia ib la lb) (na : Nx ia la us Pa La) (nb : Nx ib lb vs Pb Lb) {u v : Value} {Q : Value → Shared → Prop} (hz : IsZip s.heap zz ti tu .none) (hi : IsPair s.heap ti (.ref ia) (.ref ib)) (ho : IsPair s.heap tu p0 q0)
    (pa : Pa s.heap ka) (pb : Pb s.heap kb) (sa : La s.heap) (sb : Lb s.heap) (hu : us[ka]? = some u) (hv : vs[kb]? = some v)
    (fin : ∀ g, IsZip g zz ti tu (rawInt s.heap.objs.size) → IsPair g tu u v → Pa g (ka + 1) → Pb g (kb + 1) → IsPair g s.heap.objs.size u v → g.objs.size = s.heap.objs.size + 1 →
      (∀ c o, c ≠ zz → c ≠ tu → c ≠ ia → c ≠ ib → s.heap.get? c = some o → g.get? c = some o) → Q (.ref s.heap.objs.size) { s with heap := g }) :
    wpAny (model prog w) A (Builtin.«zip.__next__» ⟨[.ref zz], []⟩) (fun r t => ∃ y, r = .done (.ret y) ∧ Q y t) E s := by
  show wpAny _ _ (field (.ref zz) 2 >>= _) _ _ _
  refine wpAny_bind (wpAny_field hz rfl (x := .bool false) rfl ?_)
  show wpAny _ _ (field (.ref zz) 3 >>= _) _ _ _
  refine wpAny_bind (wpAny_field hz rfl (x := .ref ti) rfl ?_)
  refine wpAny_bind (wpAny_seqItems hi rfl ?_)
  show wpAny _ _ (Builtin.SmallTypes.ownedTupleIsFree (.ref zz) >>= _) _ _ _
  refine wpAny_bind ?_
  unfold Builtin.SmallTypes.ownedTupleIsFree
  refine wpAny_bind (wpAny_field hz rfl (x := .none) rfl (wpAny_pure ?_))
  simp only [if_true]
  refine wpAny_bind (wpAny_rule ?_)
  refine wpAny_bind (wpAny_field hz rfl (x := .ref tu) rfl ?_)
  refine wpAny_bind (wpAny_setField_rec hz (by simp) fun g1 z1 b1 => ?_)
  replace z1 : IsZip g1 zz ti tu .ellipsis := z1
  refine wpAny_bind ?_
  simp only [List.zipIdx_cons, List.zipIdx_nil, List.forIn_cons, List.forIn_nil]
  have x1 := b1.extBut
  refine wpAny_bind (wpAny_bind (wpAny_onRaise ?_))
  show wpAny _ _ (Builtin.SmallTypes.nextOf (.ref ia) >>= _) _ _ _
  refine wpAny_bind (na.item (na.pk pa x1 D.i1z) (na.lk sa x1 D.l1z) hu fun g2 pa2 b2 => wpAny_pure ?_)
  have x2 := b2.extBut
  have o2 : IsPair g2 tu p0 q0 := x2 _ _ D.TOi1 (x1 _ _ D.TOz ho)
  refine wpAny_bind (wpAny_seqItems o2 rfl ?_)
  refine wpAny_bind (wpAny_updateSeq_pair o2 fun g3 o3 b3 => ?_)
  replace o3 : IsPair g3 tu u q0 := o3
  have x3 := b3.extBut
  refine wpAny_bind (wpAny_letGo (wpAny_pure ?_))
  refine wpAny_bind (wpAny_bind (wpAny_onRaise ?_))
  show wpAny _ _ (Builtin.SmallTypes.nextOf (.ref ib) >>= _) _ _ _
  have pb3 := nb.pk (nb.pk (nb.pk pb x1 D.i2z) x2 D.i12.symm) x3 D.TOi2.symm
  have sb3 := nb.lk (nb.lk (nb.lk sb x1 D.l2z) x2 D.l2i1) x3 D.l2TO
  refine wpAny_bind (nb.item pb3 sb3 hv fun g4 pb4 b4 => wpAny_pure ?_)
  have x4 := b4.extBut
  have o4 : IsPair g4 tu u q0 := x4 _ _ D.TOi2 o3
  refine wpAny_bind (wpAny_seqItems o4 rfl ?_)
  refine wpAny_bind (wpAny_updateSeq_pair o4 fun g5 o5 b5 => ?_)
  replace o5 : IsPair g5 tu u v := o5
  have x5 := b5.extBut
  refine wpAny_bind (wpAny_letGo (wpAny_pure (wpAny_pure ?_)))
  refine wpAny_bind (wpAny_seqItems o5 rfl ?_)
  refine wpAny_bind (wpAny_newTuple ?_)
  have n5 : g5.objs.size = s.heap.objs.size := by rw [b5.1, b4.1, b3.1, b2.1, b1.1]
  have z5 : IsZip g5 zz ti tu .ellipsis := x5 _ _ D.TOz.symm (x4 _ _ D.i2z.symm (x3 _ _ D.TOz.symm (x2 _ _ D.i1z.symm z1)))
  have k5 : ∀ c o, c ≠ zz → c ≠ tu → c ≠ ia → c ≠ ib → s.heap.get? c = some o → g5.get? c = some o := fun c o c1 c2 c3 c4 e => x5 _ _ c2 (x4 _ _ c4 (x3 _ _ c2 (x2 _ _ c3 (x1 _ _ c1 e))))
  have pa5 := na.pk (na.pk (na.pk pa2 x3 D.TOi1.symm) x4 D.i12) x5 D.TOi1.symm
  have pb5 := nb.pk pb4 x5 D.TOi2.symm
  have lz := Heap.lt_size z5
  have lia := na.lt pa5
  have lib := nb.lt pb5
  show wpAny _ _ (Builtin.SmallTypes.ownedTupleHandOut (.ref zz) (.ref g5.objs.size) >>= _) _ _ _
  refine wpAny_bind ?_
  unfold Builtin.SmallTypes.ownedTupleHandOut
  have z6 : IsZip (g5.push { cls := .type "tuple", data := .seq #[u, v] }) zz ti tu .ellipsis := Heap.get?_push_of_some _ z5
  refine wpAny_bind (wpAny_setField_rec z6 (by simp) fun g7 z7 b7 => ?_)
  replace z7 : IsZip g7 zz ti tu (rawInt g5.objs.size) := z7
  refine wpAny_setField_rec z7 (by simp) fun g8 z8 b8 => ?_
  replace z8 : IsZip g8 zz ti tu (rawInt g5.objs.size) := z8
  have x6 : Heap.ExtBut zz g5 (g5.push { cls := .type "tuple", data := .seq #[u, v] }) := fun c o _ e => Heap.get?_push_of_some _ e
  have x7 := b7.extBut
  have x8 := b8.extBut
  have up : ∀ c o, c ≠ zz → g5.get? c = some o → g8.get? c = some o := fun c o c1 e => x8 _ _ c1 (x7 _ _ c1 (x6 _ _ c1 e))
  have t8 : IsPair g8 g5.objs.size u v := x8 _ _ (Nat.ne_of_gt lz) (x7 _ _ (Nat.ne_of_gt lz) (Heap.get?_push_size _ rfl))
  have n8 : g8.objs.size = g5.objs.size + 1 := by rw [b8.1, b7.1, Heap.size_push]
  rw [n5] at z8 t8 n8
  refine wpAny_pure ⟨_, rfl, ?_⟩
  show Q (.ref g5.objs.size) _
  rw [n5]
  exact fin g8 z8 (up _ _ D.TOz o5) (na.pk (na.pk (na.pk pa5 x6 D.i1z) x7 D.i1z) x8 D.i1z) (nb.pk (nb.pk (nb.pk pb5 x6 D.i2z) x7 D.i2z) x8 D.i2z) t8 n8 fun c o c1 c2 c3 c4 e => up c o c1 (k5 c o c1 c2 c3 c4 e)
theorem any_zip_end (hh : A.handled = none) (D : ZipApart zz ti tu ia ib la lb) (na : Nx ia la us Pa La) (nb : Nx ib lb vs Pb Lb) {Q : Fin → Shared → Prop} (hz : IsZip s.heap zz ti tu .none) (hi : IsPair s.heap ti (.ref ia) (.ref ib)) (ho : IsPair s.heap tu p0 q0)
    (pa : Pa s.heap ka) (pb : Pb s.heap kb) (sa : La s.heap) (sb : Lb s.heap) (he : us[ka]? = none ∨ vs[kb]? = none)
    (fin : ∀ g e, (∀ c o, c ≠ zz → c ≠ tu → c ≠ ia → c ≠ ib → s.heap.get? c = some o → g.get? c = some o) → (∃ o, g.get? e = some o ∧ o.cls = .type "StopIteration") → E (.ref e) { s with heap := g }) :
    wpAny (model prog w) A (Builtin.«zip.__next__» ⟨[.ref zz], []⟩) Q E s := by
  show wpAny _ _ (field (.ref zz) 2 >>= _) _ _ _
  refine wpAny_bind (wpAny_field hz rfl (x := .bool false) rfl ?_)
  show wpAny _ _ (field (.ref zz) 3 >>= _) _ _ _
  refine wpAny_bind (wpAny_field hz rfl (x := .ref ti) rfl ?_)
  refine wpAny_bind (wpAny_seqItems hi rfl ?_)
  show wpAny _ _ (Builtin.SmallTypes.ownedTupleIsFree (.ref zz) >>= _) _ _ _
  refine wpAny_bind ?_
  unfold Builtin.SmallTypes.ownedTupleIsFree
  refine wpAny_bind (wpAny_field hz rfl (x := .none) rfl (wpAny_pure ?_))
  simp only [if_true]
  refine wpAny_bind (wpAny_rule ?_)
  refine wpAny_bind (wpAny_field hz rfl (x := .ref tu) rfl ?_)
  refine wpAny_bind (wpAny_setField_rec hz (by simp) fun g1 z1 b1 => ?_)
  replace z1 : IsZip g1 zz ti tu .ellipsis := z1
  refine wpAny_bind ?_
  simp only [List.zipIdx_cons, List.zipIdx_nil, List.forIn_cons, List.forIn_nil]
  have x1 := b1.extBut
  refine wpAny_bind (wpAny_bind (wpAny_onRaise ?_))
  show wpAny _ _ (Builtin.SmallTypes.nextOf (.ref ia) >>= _) _ _ _
  cases hu : us[ka]? with
  | none =>
    refine wpAny_bind (na.stop hh (na.pk pa x1 D.i1z) (na.lk sa x1 D.l1z) hu fun g2 e x2 ee => ?_)
    obtain ⟨oe, h1, h2⟩ := ee
    have z2 : IsZip g2 zz ti tu .ellipsis := x2 _ _ D.i1z.symm z1
    have ez : e ≠ zz := fun y => by subst y; rw [z2] at h1; cases h1; simp at h2
    refine wpAny_setField_rec z2 (by simp) fun g3 _ b3 => fin g3 e (fun c o c1 _ c3 _ y => b3.extBut _ _ c1 (x2 _ _ c3 (x1 _ _ c1 y))) ⟨oe, b3.extBut _ _ ez h1, h2⟩
  | some u =>
    have hv : vs[kb]? = none := by
      rcases he with q | q
      · rw [hu] at q; cases q
      · exact q
    refine wpAny_bind (na.item (na.pk pa x1 D.i1z) (na.lk sa x1 D.l1z) hu fun g2 pa2 b2 => wpAny_pure ?_)
    have x2 := b2.extBut
    have o2 : IsPair g2 tu p0 q0 := x2 _ _ D.TOi1 (x1 _ _ D.TOz ho)
    refine wpAny_bind (wpAny_seqItems o2 rfl ?_)
    refine wpAny_bind (wpAny_updateSeq_pair o2 fun g3 o3 b3 => ?_)
    have x3 := b3.extBut
    refine wpAny_bind (wpAny_letGo (wpAny_pure ?_))
    refine wpAny_bind (wpAny_bind (wpAny_onRaise ?_))
    show wpAny _ _ (Builtin.SmallTypes.nextOf (.ref ib) >>= _) _ _ _
    have pb3 := nb.pk (nb.pk (nb.pk pb x1 D.i2z) x2 D.i12.symm) x3 D.TOi2.symm
    have sb3 := nb.lk (nb.lk (nb.lk sb x1 D.l2z) x2 D.l2i1) x3 D.l2TO
    refine wpAny_bind (nb.stop hh pb3 sb3 hv fun g4 e x4 ee => ?_)
    obtain ⟨oe, h1, h2⟩ := ee
    have z4 : IsZip g4 zz ti tu .ellipsis := x4 _ _ D.i2z.symm (x3 _ _ D.TOz.symm (x2 _ _ D.i1z.symm z1))
    have ez : e ≠ zz := fun y => by subst y; rw [z4] at h1; cases h1; simp at h2
    refine wpAny_setField_rec z4 (by simp) fun g5 _ b5 => fin g5 e (fun c o c1 c2 c3 c4 y => b5.extBut _ _ c1 (x4 _ _ c4 (x3 _ _ c2 (x2 _ _ c3 (x1 _ _ c1 y))))) ⟨oe, b5.extBut _ _ ez h1, h2⟩
theorem any_next_item (D : ZipApart zz ti tu ia ib la lb) (na : Nx ia la us Pa La) (nb : Nx ib lb vs Pb Lb) {u v : Value} {Q : Option Value → Shared → Prop} (hz : IsZip s.heap zz ti tu .none) (hi : IsPair s.heap ti (.ref ia) (.ref ib)) (ho : IsPair s.heap tu p0 q0)
    (pa : Pa s.heap ka) (pb : Pb s.heap kb) (sa : La s.heap) (sb : Lb s.heap) (hu : us[ka]? = some u) (hv : vs[kb]? = some v)
    (fin : ∀ g, IsZip g zz ti tu (rawInt s.heap.objs.size) → IsPair g tu u v → Pa g (ka + 1) → Pb g (kb + 1) → IsPair g s.heap.objs.size u v → g.objs.size = s.heap.objs.size + 1 →
      (∀ c o, c ≠ zz → c ≠ tu → c ≠ ia → c ≠ ib → s.heap.get? c = some o → g.get? c = some o) → Q (some (.ref s.heap.objs.size)) { s with heap := g }) : wpAny (model prog w) A (pyNext (.ref zz)) Q E s := by
  have ty : s.TypeIs (.ref zz) "zip" := ⟨_, hz, rfl⟩
  unfold pyNext
  exact wpAny_bind (wpAny_attempt (wpAny_callSpecial?_slot (name := Str.ofString "__next__") ty F.slot_zip_next (wpAny_call_entry F.slot_zip_next ty F.entry_zip_next
    (any_zip_item D na nb hz hi ho pa pb sa sb hu hv fun g a1 a2 a3 a4 a5 a6 a7 => wpAny_pure (fin g a1 a2 a3 a4 a5 a6 a7)) (F.args_zip_next_1 _))))
theorem any_next_end (hh : A.handled = none) (D : ZipApart zz ti tu ia ib la lb) (na : Nx ia la us Pa La) (nb : Nx ib lb vs Pb Lb) {Q : Option Value → Shared → Prop} (hz : IsZip s.heap zz ti tu .none) (hi : IsPair s.heap ti (.ref ia) (.ref ib)) (ho : IsPair s.heap tu p0 q0)
    (pa : Pa s.heap ka) (pb : Pb s.heap kb) (sa : La s.heap) (sb : Lb s.heap) (he : us[ka]? = none ∨ vs[kb]? = none)
    (fin : ∀ g, (∀ c o, c ≠ zz → c ≠ tu → c ≠ ia → c ≠ ib → s.heap.get? c = some o → g.get? c = some o) → Q none { s with heap := g }) : wpAny (model prog w) A (pyNext (.ref zz)) Q E s := by
  have ty : s.TypeIs (.ref zz) "zip" := ⟨_, hz, rfl⟩
  unfold pyNext
  refine wpAny_bind (wpAny_attempt (wpAny_callSpecial?_slot (name := Str.ofString "__next__") ty F.slot_zip_next (wpAny_call_entry F.slot_zip_next ty F.entry_zip_next (any_zip_end (A := A.in1) hh D na nb hz hi ho pa pb sa sb he fun g e kp ee => ?_) (F.args_zip_next_1 _))))
  obtain ⟨oe, h1, h2⟩ := ee
  exact wpAny_bind (wpAny_isInstance (T := "StopIteration") (b := true) ⟨oe, h1, h2⟩ isSubtype_stop (wpAny_pure (fin _ kp)))
end
/-! ### zip(list, tuple) -/
abbrev mixH (g : Heap) (la lb : Addr) : Heap := ((g.push { cls := .type "list_iterator", data := .fields #[.ref la, .int 0 0] }).push { cls := .type "tuple_iterator", data := .fields #[.ref lb, .int 0 0] })
abbrev mixG (g : Heap) (la lb : Addr) : Heap := ((mixH g la lb).push { cls := .type "tuple", data := .seq #[.ref g.objs.size, .ref (g.objs.size + 1)] }).push { cls := .type "tuple", data := .seq #[.none, .none] }
abbrev mixF (g : Heap) (la lb : Addr) : Heap := (mixG g la lb).push { cls := .type "zip", data := .fields #[.none, .bool false, .bool false, .ref (g.objs.size + 2), .ref (g.objs.size + 3)] }
theorem size_mix (g : Heap) (la lb : Addr) : (mixH g la lb).objs.size = g.objs.size + 2 ∧ (mixG g la lb).objs.size = g.objs.size + 4 ∧ (mixF g la lb).objs.size = g.objs.size + 5 := by
  refine ⟨?_, ?_, ?_⟩ <;> simp only [Heap.size_push]
theorem meets_mix (la lb : Addr) (us vs : Array Value) : Meets (Builtin.«zip.__new__» ⟨[.type "zip", .ref la, .ref lb], []⟩) (fun _ R t => t.heap.IsList la us ∧ t.heap.IsTuple lb vs ∧ R (.ok (.ret (.ref (t.heap.objs.size + 4)))) { t with heap := mixF t.heap la lb }) :=
  .of_wp fun prog w A R t q => by
    obtain ⟨hp, g, d, tk, os⟩ := t
    obtain ⟨ul, vl, q⟩ := q
    have hsub := sub_zip
    have u0 : Heap.IsList (Shared.heap ⟨hp, g, d, tk, os⟩) la us := ul
    have v0 : Heap.IsTuple (Shared.heap ⟨hp.push { cls := .type "list_iterator", data := .fields #[.ref la, .int 0 0] }, g, d, tk, os⟩) lb vs := Heap.IsTuple.push vl _
    wp_walk using wpAny_pyIter_list u0, wpAny_pyIter_tuple v0
    refine ⟨_, rfl, ?_⟩
    simp only [mixF, mixG, mixH, Heap.size_push] at q ⊢
    exact q
section
variable {prog : Program} {w : World} {A : Around} {E : Value → Shared → Prop} {s : Shared} {la lb : Addr} {us vs : Array Value}
theorem call_mix {Q : Value → Shared → Prop} (ul : s.heap.IsList la us) (vl : s.heap.IsTuple lb vs)
    (fin : ∀ g, IsZip g (s.heap.objs.size + 4) (s.heap.objs.size + 2) (s.heap.objs.size + 3) .none → IsPair g (s.heap.objs.size + 2) (.ref s.heap.objs.size) (.ref (s.heap.objs.size + 1)) → IsPair g (s.heap.objs.size + 3) .none .none →
      g.IsListIter s.heap.objs.size la 0 → g.IsTupleIter (s.heap.objs.size + 1) lb 0 → (∀ c o, s.heap.get? c = some o → g.get? c = some o) → Q (.ref (s.heap.objs.size + 4)) { s with heap := g }) : wpAny (model prog w) A (call (.type "zip") [.ref la, .ref lb]) Q E s := by
  refine callType_new F.called_zip (by decide) (F.typeCall_zip_2 _ _) (F.newCall_zip_2 _ _) (fun obj => F.args_object_init_3 obj _ _) F.entry_zip_new (meets_mix la lb us vs) ⟨ul, vl, ?_⟩
  obtain ⟨m1, m2, m3⟩ := size_mix s.heap la lb
  have n1 : (s.heap.push { cls := .type "list_iterator", data := .fields #[.ref la, .int 0 0] }).objs.size = s.heap.objs.size + 1 := Heap.size_push ..
  have n3 : ((mixH s.heap la lb).push { cls := .type "tuple", data := .seq #[.ref s.heap.objs.size, .ref (s.heap.objs.size + 1)] }).objs.size = s.heap.objs.size + 3 := by rw [Heap.size_push, m1]
  have e5 : (mixF s.heap la lb).get? (mixG s.heap la lb).objs.size = some _ := Heap.get?_push_size _ rfl
  have e4 : (mixF s.heap la lb).get? ((mixH s.heap la lb).push { cls := .type "tuple", data := .seq #[.ref s.heap.objs.size, .ref (s.heap.objs.size + 1)] }).objs.size = some _ := Heap.get?_push_of_some _ (Heap.get?_push_size _ rfl)
  have e3 : (mixF s.heap la lb).get? (mixH s.heap la lb).objs.size = some _ := Heap.get?_push_of_some _ (Heap.get?_push_of_some _ (Heap.get?_push_size _ rfl))
  have e2 : (mixF s.heap la lb).get? (s.heap.push { cls := .type "list_iterator", data := .fields #[.ref la, .int 0 0] }).objs.size = some _ := Heap.get?_push_of_some _ (Heap.get?_push_of_some _ (Heap.get?_push_of_some _ (Heap.get?_push_size _ rfl)))
  have e1 : (mixF s.heap la lb).get? s.heap.objs.size = some _ := Heap.get?_push_of_some _ (Heap.get?_push_of_some _ (Heap.get?_push_of_some _ (Heap.get?_push_of_some _ (Heap.get?_push_size _ rfl))))
  rw [m2] at e5
  rw [n3] at e4
  rw [m1] at e3
  rw [n1] at e2
  show _ ∧ _
  exact ⟨⟨_, e5, rfl⟩, fin _ e5 e3 e4 ⟨_, e1, rfl, rfl⟩ ⟨_, e2, rfl, rfl⟩ fun c o x => Heap.get?_push_of_some _ (Heap.get?_push_of_some _ (Heap.get?_push_of_some _ (Heap.get?_push_of_some _ (Heap.get?_push_of_some _ x))))⟩
end
/-- the list at a and the tuple at b as they stand at each turn -/
def ItzM (K : PySem.W.Frag) (a b : Addr) : It :=
  ⟨fun i H => ∃ (us vs : List V) (u v : V), SqL K H a us ∧ SqT K H b vs ∧ us[i]? = some u ∧ vs[i]? = some v,
    fun i H y H' => ∃ T u v, y = .ref T ∧ H T = none ∧ H' = upd H T (.tup [u, v]) ∧ (∀ us, SqL K H a us → us[i]? = some u) ∧ ∀ vs, SqT K H b vs → vs[i]? = some v,
    fun i H => ∃ us vs : List V, SqL K H a us ∧ SqT K H b vs ∧ (us.length ≤ i ∨ vs.length ≤ i)⟩
def MixSt (a b zz ti tu ia ib : Addr) (i : Nat) (g : Heap) : Prop := IsZip g zz ti tu .none ∧ IsPair g ti (.ref ia) (.ref ib) ∧ (∃ x y, IsPair g tu x y) ∧ g.IsListIter ia a i ∧ g.IsTupleIter ib b i
theorem turn_mix {P : Program} {w : World} {K : PySem.W.Frag} {elts : List Expr} {kk : Nat} {tpos : Pos} {a b zz ti tu ia ib : Addr} (D : ZipApart zz ti tu ia ib a b) :
    Turn P w K (.Tuple elts kk tpos) (ItzM K a b) [zz, ti, tu, ia, ib] zz (MixSt a b zz ti tu ia ib) where
  mem := by simp
  obj := fun i g st c hc => by
    obtain ⟨q1, q2, ⟨x, y, q3⟩, ⟨oa, ea, _, da⟩, ⟨ob, eb, _, db⟩⟩ := st
    have cs : c = zz ∨ c = ti ∨ c = tu ∨ c = ia ∨ c = ib := by simpa using hc
    rcases cs with q | q | q | q | q <;> subst q
    · exact ⟨_, q1, fun v y => nomatch y⟩
    · exact ⟨_, q2, fun v y => nomatch y⟩
    · exact ⟨_, q3, fun v y => nomatch y⟩
    · exact ⟨oa, ea, fun v y => by rw [da] at y; cases y⟩
    · exact ⟨ob, eb, fun v y => by rw [db] at y; cases y⟩
  keep := fun i g g' st kp => by
    obtain ⟨q1, q2, ⟨x, y, q3⟩, q4, q5⟩ := st
    exact ⟨kp zz (by simp) _ q1, kp ti (by simp) _ q2, ⟨x, y, kp tu (by simp) _ q3⟩, q4.at fun o q => kp ia (by simp) o q, q5.at fun o q => kp ib (by simp) o q⟩
  item := by
    intro X hP hw hK hc i pins s σ H E I hf st hg
    subst hP hw hK
    obtain ⟨q1, q2, ⟨x0, y0, q3⟩, q4, q5⟩ := st
    obtain ⟨us, vs, u, v, hu, hv, eu, ev⟩ := hg
    obtain ⟨its, rv, pl, _⟩ := I.list hu
    obtain ⟨its2, rv2, pt, _⟩ := I.tuple hv
    obtain ⟨wu, e1, r1⟩ := rv.get eu
    obtain ⟨wv, e2, r2⟩ := rv2.get ev
    have zl : zz < s.heap.objs.size := Heap.lt_size q1
    refine any_next_item D (nx_list ia a its.toArray) (nx_tup ib b its2.toArray) (u := wu) (v := wv) q1 q2 q3 q4 q5 pl.isList pt (by simpa using e1) (by simpa using e2) fun g z1 o1 a1 b1 t1 n1 kp => ?_
    refine ⟨_, rfl, wpAny_letOwnedTupleGo_zip (s := { s with heap := g }) z1 fun g2 z2 sb => ?_⟩
    have t2 : g2.get? s.heap.objs.size = some { cls := .type "tuple", data := .seq #[wu, wv] } := (sb.2 _ (Nat.ne_of_gt zl)).trans t1
    have nw : ObjOk X.prog X.w (upd H s.heap.objs.size (.tup [u, v])) g2 s.heap.objs.size (.tup [u, v]) := ⟨by show 2 ≤ sizeLine; decide, [wu, wv], .cons r1 (.cons r2 .nil), ⟨_, t2, rfl, _, rfl⟩⟩
    have I1 : Inv X pins σ (upd H s.heap.objs.size (.tup [u, v])) { s with heap := g2 } :=
      I.turnedNew (t' := s.toks) (ch := [zz, ti, tu, ia, ib]) (fun c o hb q => (sb.2 c (fun y => hb (by simp [y]))).trans (kp c o (fun y => hb (by simp [y])) (fun y => hb (by simp [y])) (fun y => hb (by simp [y])) (fun y => hb (by simp [y])) q)) hf (Nat.le_refl _) nw
    refine ⟨.ref s.heap.objs.size, _, I1, rfl, ⟨_, u, v, rfl, I.hok.fresh (Nat.le_refl _), rfl, fun l hl => by rw [I.list_inj hl hu]; exact eu, fun l hl => by rw [I.tuple_inj hl hv]; exact ev⟩, ⟨z2, ?_, ⟨wu, wv, ?_⟩, ?_, ?_⟩, fun c hcm => ?_⟩
    · exact (sb.2 _ D.TIz).trans (kp _ _ D.TIz D.TITO D.TIi1 D.TIi2 q2)
    · exact (sb.2 _ D.TOz).trans o1
    · exact a1.at fun o q => (sb.2 _ D.i1z).trans q
    · exact b1.at fun o q => (sb.2 _ D.i2z).trans q
    · have la : ia < s.heap.objs.size := (nx_list ia a its.toArray).lt q4
      have lb : ib < s.heap.objs.size := (nx_tup ib b its2.toArray).lt q5
      have lt : c < s.heap.objs.size := by
        have cs : c = zz ∨ c = ti ∨ c = tu ∨ c = ia ∨ c = ib := by simpa using hcm
        rcases cs with q | q | q | q | q <;> subst q
        · exact zl
        · exact Heap.lt_size q2
        · exact Heap.lt_size q3
        · exact la
        · exact lb
      rw [upd_ne (Nat.ne_of_lt lt)]
      exact (hf c hcm).1
  done := by
    intro X hP hw hK hc i pins s σ H E I hf st hg
    subst hP hw hK
    obtain ⟨q1, q2, ⟨x0, y0, q3⟩, q4, q5⟩ := st
    obtain ⟨us, vs, hu, hv, he⟩ := hg
    obtain ⟨its, rv, pl, _⟩ := I.list hu
    obtain ⟨its2, rv2, pt, _⟩ := I.tuple hv
    have n1 := rv.length
    have n2 := rv2.length
    have no : its.toArray[i]? = none ∨ its2.toArray[i]? = none := he.imp (fun q => by simp; omega) (fun q => by simp; omega)
    exact any_next_end (I.ok.hd hc) D (nx_list ia a its.toArray) (nx_tup ib b its2.toArray) q1 q2 q3 q4 q5 pl.isList pt no fun g kp => ⟨rfl, I.turnedL (t' := s.toks) (ch := [zz, ti, tu, ia, ib]) (fun c o hb q =>
      kp c o (fun y => hb (by simp [y])) (fun y => hb (by simp [y])) (fun y => hb (by simp [y])) (fun y => hb (by simp [y])) q) hf⟩
  self := fun A i s Q E st h => wpAny_pyIter_zip st.1 h
def iZipM (K : PySem.W.Frag) (ta : TA) : TI := fun σ H R => ta σ H fun xs H1 => ∃ a b us vs, xs = [.ref a, .ref b] ∧ SqL K H1 a us ∧ SqT K H1 b vs ∧ R (ItzM K a b) H1
theorem pi_zipM {X : Cx} {e e2 : Expr} {ta : TA} {p pos tpos : Pos} {elts : List Expr} {kk : Nat} (hg : Gl X "zip") (hm : X.mg "zip" = none) (ha : PA X [e, e2] ta) (hs : starEach [e, e2] X.env = (false, eval e X.env) :: starEach [e2] X.env)
    (hpl : (backTo pos (starEach [e2] X.env)).any (·.1) = false) : PI X (.Tuple elts kk tpos) (.Call (.Name "zip" p) [e, e2] [] pos) (iZipM X.K ta) := by
  refine ⟨fun pins s σ H R I h => ?_⟩
  refine Call_ (ld_blt I hg hm PyProof.Rows.boot_zip (PyProof.Rows.callWith_type1 (thn (ha.run pos pins s σ H _ I h) fun ws s1 ⟨xs, H1, I1, r1, q1⟩ => ?_) hs hpl))
  obtain ⟨a, b, us, vs, ex, hu, hv, q⟩ := q1
  subst ex
  obtain ⟨wa, wb, rfl, ra, rb⟩ : ∃ wa wb, ws = [wa, wb] ∧ RelV (.ref a) wa ∧ RelV (.ref b) wb := by
    cases r1 with
    | cons r rr =>
      cases rr with
      | cons r' rr =>
        cases rr
        exact ⟨_, _, rfl, r, r'⟩
  cases ra
  cases rb
  obtain ⟨its, rv, pl, _⟩ := I1.list hu
  obtain ⟨its2, rv2, pt, _⟩ := I1.tuple hv
  obtain ⟨ot, et, _⟩ := id pt
  refine call_mix pl.isList (show s1.heap.IsTuple b its2.toArray from pt) fun g hz hti htu h1 h2 kp => wpAny_pyIter_zip hz ?_
  have I2 : Inv X pins σ H1 { s1 with heap := g } := I1.kept (t' := s1.toks) kp
  refine ⟨s1.heap.objs.size + 4, [s1.heap.objs.size + 4, s1.heap.objs.size + 2, s1.heap.objs.size + 3, s1.heap.objs.size, s1.heap.objs.size + 1], _, _, H1, rfl, I2, turn_mix (PySem.W.ktu_apart s1.heap.objs.size a b pl.lt (Heap.lt_size et)), ⟨hz, hti, ⟨_, _, htu⟩, h1, h2⟩, fun c hcm => ?_, q⟩
  have le : s1.heap.objs.size ≤ c := by
    have cs : c = s1.heap.objs.size + 4 ∨ c = s1.heap.objs.size + 2 ∨ c = s1.heap.objs.size + 3 ∨ c = s1.heap.objs.size ∨ c = s1.heap.objs.size + 1 := by simpa using hcm
    rcases cs with z | z | z | z | z <;> rw [z] <;> first | exact Nat.le_refl _ | exact Nat.le_add_right _ _
  exact I1.fpOk le (I1.hok.fresh le)
section
variable {X : Cx} {W : WX} {K : PySem.W.Frag}
theorem mix_goes {a c : Addr} {xs ys : List P} {w w2 : List Nat} {as : List Addr} {h : AH} {H : Hp} (g : SeqIn K false a xs w as h H) (g' : SeqIn K true c ys w2 as h H) : Goes2 K (ItzM K a c) ⟨zipP xs ys, w ++ w2⟩ as h H := by
  intro as2 h2 H2 x r st
  obtain ⟨vs, g1, g2⟩ := g as2 h2 H2 x r (fun n hn => st n (List.mem_append_left _ hn))
  obtain ⟨us, g3, g4⟩ := g' as2 h2 H2 x r (fun n hn => st n (List.mem_append_right _ hn))
  have g1 : SqL K H2 a vs := g1
  have g3 : SqT K H2 c us := g3
  have hl : (zipP xs ys).length = min vs.length us.length := by rw [zipP_len, g2.len, g4.len]
  have hm : vs.length ≤ (zipP xs ys).length ∨ us.length ≤ (zipP xs ys).length := by omega
  refine ⟨⟨vs, us, g1, g3, hm⟩, fun i p e => ?_⟩
  obtain ⟨p2, q2, e1, e2, rfl⟩ := zipP_get xs ys i p e
  obtain ⟨v, e3, e4⟩ := g2.get e1
  obtain ⟨u, e5, e6⟩ := g4.get e2
  refine ⟨⟨vs, us, v, u, g1, g3, e3, e5⟩, fun y H3 z => ?_⟩
  obtain ⟨T, v2, u2, rfl, z1, rfl, z2, z3⟩ := z
  have f1 := z2 vs g1
  have f2 := z3 us g3
  rw [e3] at f1
  rw [e5] at f2
  cases f1
  cases f2
  exact laid_pair r z1 e4 e6
/-- zip of a list and a tuple -/
def srcZm : List P → AH → Out Src := fun xs h => match xs with
  | [p, q] => if isTup p = false ∧ isTup q = true then (match seqW h p, seqW h q with
    | some (xs, w), some (ys, w2) => .ok ⟨zipP xs ys, w ++ w2⟩ h
    | _, _ => .bad) else .bad
  | _ => .bad
def iZm (a : LM) : IM := fun t h => (a t h).bind srcZm
theorem w_zipM {e e2 : Expr} {m : LM} {p pos tpos : Pos} {elts : List Expr} {kk : Nat} (hm : X.mg "zip" = none) (ha : PAm X W [e, e2] m) (hg : Gl X "zip" := by rfl)
    (hs : starEach [e, e2] X.env = (false, eval e X.env) :: starEach [e2] X.env := by rfl) (hpl : (backTo pos (starEach [e2] X.env)).any (·.1) = false := by rfl) : PIm X W (.Tuple elts kk tpos) (.Call (.Name "zip" p) [e, e2] [] pos) (iZm m) := by
  refine PI_imp (pi_zipM hg hm ha hs hpl) fun s H R q => ?_
  obtain ⟨as, h, t, rh, rs, q⟩ := q
  refine ⟨as, h, t, rh, rs, (post_src (Rr := Reps X.K) (o := m t h) (f := srcZm) q).mono fun vs H1 y => ?_⟩
  obtain ⟨as1, h2, ps2, S, x1, r1, e1, eo, y⟩ := y
  unfold srcZm at y
  split at y
  · rename_i p q
    obtain ⟨v, u, rfl, rv, ru⟩ := reps2 e1
    split at y
    · rename_i hb
      split at y
      · rename_i xs w ys w2 e3 e4
        rcases y with ⟨h3, y1, y2⟩ | ⟨c, p2, h3, y1, _⟩
        · cases y1
          obtain ⟨a, rfl, g⟩ := seq_in r1 rv e3
          obtain ⟨c, rfl, g'⟩ := seq_in r1 ru e4
          rw [hb.1] at g
          rw [hb.2] at g'
          obtain ⟨vs1, g1, _⟩ := g as1 h2 H1 (Ext.refl _ _) r1 (fun _ _ => rfl)
          obtain ⟨us1, g3, _⟩ := g' as1 h2 H1 (Ext.refl _ _) r1 (fun _ _ => rfl)
          exact ⟨a, c, vs1, us1, rfl, g1, g3, y2 as1 H1 _ (Ext.refl _ _) r1 (mix_goes g g')⟩
        · cases y1
      · rcases y with ⟨h3, y1, y2⟩ | ⟨c, p2, h3, y1, _⟩ <;> cases y1
    · rcases y with ⟨h3, y1, y2⟩ | ⟨c, p2, h3, y1, _⟩ <;> cases y1
  · rcases y with ⟨h3, y1, y2⟩ | ⟨c, p2, h3, y1, _⟩ <;> cases y1
end
end AM

/-! The meanings, printed by gen.py. -/
namespace K14
open PySem PySem.Spec PyProof.Rows L2 AM
noncomputable section
def N__law_cells : List Str := ["script", "most"]
def b__law_cells : SM :=
    (sR (eLR false (eCB fMax (lC (eC (.int 1)) (lC (eCB fMin (lC (eV 1) (lC (eCB fLen (lC (eV 0) lN)) lN))) lN)))))
def m__law_cells : Fn := mkFn N__law_cells.length b__law_cells
@[simp] theorem nl__law_cells : N__law_cells.length = 2 := rfl
def N__law_take : List Str := ["pot", "upto", "digit", "prime", "blend"]
def b__law_take : SM :=
    (sQ (sIf (tCp gtP (eB itemP (eV 0) (eC (.int 0))) (eC (.int 0))) (sQ (sA (eB vMod (eCB fInt (lC (eB itemP (eV 0) (eC (.int 0))) lN)) (eV 1)) (gN 2))
    (sQ (sA (eB vDiv (eB itemP (eV 0) (eC (.int 0))) (eV 1)) (gS (eV 0) (eC (.int 0))))
    (sR (eV 2)))) sNx)
    (sQ (sA (eB (vAdd false) (eB itemP (eV 0) (eC (.int 2))) (eC (.int 1))) (gS (eV 0) (eC (.int 2))))
    (sQ (sA (eB itemP (eLst false (lC (eC (.int 2147483647)) (lC (eC (.int 2147483629)) (lC (eC (.int 2147483587)) (lC (eC (.int 2147483579)) (lC (eC (.int 2147483563)) lN)))))) (eB vMod (eCB fInt (lC (eB itemP (eV 0) (eC (.int 2))) lN)) (eC (.int 5)))) (gN 3))
    (sQ (sA (eB vMod (eCB fInt (lC (eB vPow (eCB fInt (lC (eB (vAdd false) (eB (vAdd false) (eB itemP (eV 0) (eC (.int 1))) (eB vMul (eB vMul (eC (.int 104795)) (eB itemP (eV 0) (eC (.int 2)))) (eB itemP (eV 0) (eC (.int 2))))) (eC (.int 2133))) lN)) (eC (.int 3))) lN)) (eV 3)) (gN 4))
    (sQ (sA (eB vMod (eCB fInt (lC (eB vMul (eV 4) (eB (vAdd false) (eB vMod (eCB fInt (lC (eV 4) lN)) (eC (.int 12519))) (eB vMul (eC (.int 1111)) (eB itemP (eV 0) (eC (.int 2)))))) lN)) (eC (.int 2305843009213693907))) (gN 4))
    (sR (eB vMod (eCB fInt (lC (eB vDiv (eV 4) (eC (.int 167))) lN)) (eV 1))))))))
def m__law_take : Fn := mkFn N__law_take.length b__law_take
@[simp] theorem nl__law_take : N__law_take.length = 5 := rfl
def N__law_some : List Str := ["pot", "pool", "many", "rests", "found", "lap"]
def b__law_some : SM :=
    (sQ (sPar 3 4 (lC (eCB (fList true) (lC (eV 1) lN)) (lC (eLst true lN) lN)))
    (sQ (sFor (iRg1 (lC (eV 2) lN)) (gN 5) (sE (eBM "list" mAppend (eV 4) (lC (eBM "list" mPop (eV 3) (lC (eCall 2 m__law_take (lC (eV 0) (lC (eCB fLen (lC (eV 3) lN)) lN))) lN)) lN))))
    (sR (eV 4))))
def m__law_some : Fn := mkFn N__law_some.length b__law_some
@[simp] theorem nl__law_some : N__law_some.length = 6 := rfl
def N__law_of : List Str := ["pot", "some"]
def b__law_of : SM :=
    (sR (eB itemP (eV 1) (eCall 2 m__law_take (lC (eV 0) (lC (eCB fLen (lC (eV 1) lN)) lN)))))
def m__law_of : Fn := mkFn N__law_of.length b__law_of
@[simp] theorem nl__law_of : N__law_of.length = 2 := rfl
def N__law_net_fraction : List Str := ["pot"]
def b__law_net_fraction : SM :=
    (sR (eCall 2 m__law_of (lC (eV 0) (lC (eLst false (lC (eTup (lC (eC (.int 0)) (lC (eC (.int 1)) lN))) (lC (eTup (lC (eC (.int 1)) (lC (eC (.int 1)) lN))) (lC (eTup (lC (eU vNeg (eC (.int 1))) (lC (eC (.int 1)) lN))) (lC (eTup (lC (eC (.int 2)) (lC (eC (.int 1)) lN))) (lC (eTup (lC (eC (.int 3)) (lC (eC (.int 1)) lN))) (lC (eTup (lC (eU vNeg (eC (.int 2))) (lC (eC (.int 1)) lN))) (lC (eTup (lC (eC (.int 1)) (lC (eC (.int 2)) lN))) (lC (eTup (lC (eC (.int 4)) (lC (eC (.int 1)) lN))) (lC (eTup (lC (eU vNeg (eC (.int 3))) (lC (eC (.int 2)) lN))) (lC (eTup (lC (eC (.int 5)) (lC (eC (.int 3)) lN))) lN))))))))))) lN))))
def m__law_net_fraction : Fn := mkFn N__law_net_fraction.length b__law_net_fraction
@[simp] theorem nl__law_net_fraction : N__law_net_fraction.length = 1 := rfl
def N__law_net_spot : List Str := ["pot", "many", "lap"]
def b__law_net_spot : SM :=
    (sR (eCB fTup (lC (eLc (iRg1 (lC (eV 1) lN)) [2] (gN 2) tY (eCall 1 m__law_net_fraction (lC (eV 0) lN))) lN)))
def m__law_net_spot : Fn := mkFn N__law_net_spot.length b__law_net_spot
@[simp] theorem nl__law_net_spot : N__law_net_spot.length = 3 := rfl
def N__law_net_names : List Str := ["own", "row"]
def b__law_net_names : SM :=
    (sR (eLc (iSeq (eB (vAdd false) (eB itemP (eV 0) (eC (.str "pegs"))) (eB itemP (eV 0) (eC (.str "rings"))))) [1] (gN 1) tY (eB itemP (eV 1) (eC (.int 0)))))
def m__law_net_names : Fn := mkFn N__law_net_names.length b__law_net_names
@[simp] theorem nl__law_net_names : N__law_net_names.length = 2 := rfl
def N__law_frac_common : List Str := ["one", "other"]
def b__law_frac_common : SM :=
    (sQ (sPar 0 1 (lC (eCB fAbs (lC (eV 0) lN)) (lC (eCB fAbs (lC (eV 1) lN)) lN)))
    (sQ (sWhile (tCp gtP (eV 1) (eC (.int 0))) (sPar 0 1 (lC (eV 1) (lC (eB vMod (eCB fInt (lC (eV 0) lN)) (eV 1)) lN))))
    (sR (eV 0))))
def m__law_frac_common : Fn := mkFn N__law_frac_common.length b__law_frac_common
@[simp] theorem nl__law_frac_common : N__law_frac_common.length = 2 := rfl
def N__law_frac : List Str := ["top", "bottom", "by"]
def b__law_frac : SM :=
    (sQ (sA (eCall 2 m__law_frac_common (lC (eV 0) (lC (eV 1) lN))) (gN 2))
    (sQ (sA (eIf (tCp gtP (eV 1) (eC (.int 0))) (eV 2) (eU vNeg (eV 2))) (gN 2))
    (sR (eTup (lC (eB vDiv (eV 0) (eV 2)) (lC (eB vDiv (eV 1) (eV 2)) lN))))))
def m__law_frac : Fn := mkFn N__law_frac.length b__law_frac
@[simp] theorem nl__law_frac : N__law_frac.length = 3 := rfl
def N__law_frac_less : List Str := ["one", "other"]
def b__law_frac_less : SM :=
    (sR (eCall 2 m__law_frac (lC (eB vSub (eB vMul (eB itemP (eV 0) (eC (.int 0))) (eB itemP (eV 1) (eC (.int 1)))) (eB vMul (eB itemP (eV 1) (eC (.int 0))) (eB itemP (eV 0) (eC (.int 1))))) (lC (eB vMul (eB itemP (eV 0) (eC (.int 1))) (eB itemP (eV 1) (eC (.int 1)))) lN))))
def m__law_frac_less : Fn := mkFn N__law_frac_less.length b__law_frac_less
@[simp] theorem nl__law_frac_less : N__law_frac_less.length = 2 := rfl
def N__law_row_less : List Str := ["one", "other", "mine", "its"]
def b__law_row_less : SM :=
    (sR (eCB fTup (lC (eLc (iZp (lC (eV 0) (lC (eV 1) lN))) [2, 3] (gT 2 (gsC (gN 2) (gsC (gN 3) gsN))) tY (eCall 2 m__law_frac_less (lC (eV 2) (lC (eV 3) lN)))) lN)))
def m__law_row_less : Fn := mkFn N__law_row_less.length b__law_row_less
@[simp] theorem nl__law_row_less : N__law_row_less.length = 4 := rfl
def N__law_net_place : List Str := ["own", "name", "row"]
def b__law_net_place : SM :=
    (sR (eB itemP (eLc (iSeq (eB (vAdd false) (eB itemP (eV 0) (eC (.str "pegs"))) (eB itemP (eV 0) (eC (.str "rings"))))) [2] (gN 2) (tCp eqP (eB itemP (eV 2) (eC (.int 0))) (eV 1)) (eB itemP (eV 2) (eC (.int 1)))) (eC (.int 0))))
def m__law_net_place : Fn := mkFn N__law_net_place.length b__law_net_place
@[simp] theorem nl__law_net_place : N__law_net_place.length = 3 := rfl
def N__law_frac_plus : List Str := ["one", "other"]
def b__law_frac_plus : SM :=
    (sR (eCall 2 m__law_frac (lC (eB (vAdd false) (eB vMul (eB itemP (eV 0) (eC (.int 0))) (eB itemP (eV 1) (eC (.int 1)))) (eB vMul (eB itemP (eV 1) (eC (.int 0))) (eB itemP (eV 0) (eC (.int 1))))) (lC (eB vMul (eB itemP (eV 0) (eC (.int 1))) (eB itemP (eV 1) (eC (.int 1)))) lN))))
def m__law_frac_plus : Fn := mkFn N__law_frac_plus.length b__law_frac_plus
@[simp] theorem nl__law_frac_plus : N__law_frac_plus.length = 2 := rfl
def N__law_row_plus : List Str := ["one", "other", "mine", "its"]
def b__law_row_plus : SM :=
    (sR (eCB fTup (lC (eLc (iZp (lC (eV 0) (lC (eV 1) lN))) [2, 3] (gT 2 (gsC (gN 2) (gsC (gN 3) gsN))) tY (eCall 2 m__law_frac_plus (lC (eV 2) (lC (eV 3) lN)))) lN)))
def m__law_row_plus : Fn := mkFn N__law_row_plus.length b__law_row_plus
@[simp] theorem nl__law_row_plus : N__law_row_plus.length = 4 := rfl
def N__law_frac_times : List Str := ["one", "other"]
def b__law_frac_times : SM :=
    (sR (eCall 2 m__law_frac (lC (eB vMul (eB itemP (eV 0) (eC (.int 0))) (eB itemP (eV 1) (eC (.int 0)))) (lC (eB vMul (eB itemP (eV 0) (eC (.int 1))) (eB itemP (eV 1) (eC (.int 1)))) lN))))
def m__law_frac_times : Fn := mkFn N__law_frac_times.length b__law_frac_times
@[simp] theorem nl__law_frac_times : N__law_frac_times.length = 2 := rfl
def N__law_row_times : List Str := ["row", "by", "one"]
def b__law_row_times : SM :=
    (sR (eCB fTup (lC (eLc (iSeq (eV 0)) [2] (gN 2) tY (eCall 2 m__law_frac_times (lC (eV 2) (lC (eV 1) lN)))) lN)))
def m__law_row_times : Fn := mkFn N__law_row_times.length b__law_row_times
@[simp] theorem nl__law_row_times : N__law_row_times.length = 3 := rfl
def N__law_net_rings : List Str := ["own", "row"]
def b__law_net_rings : SM :=
    (sR (eLc (iSeq (eB itemP (eV 0) (eC (.str "rings")))) [1] (gN 1) tY (eB itemP (eV 1) (eC (.int 0)))))
def m__law_net_rings : Fn := mkFn N__law_net_rings.length b__law_net_rings
@[simp] theorem nl__law_net_rings : N__law_net_rings.length = 2 := rfl
def N__law_net_tied : List Str := ["own", "one", "other", "rings"]
def b__law_net_tied : SM :=
    (sQ (sA (eCall 1 m__law_net_rings (lC (eV 0) lN)) (gN 3))
    (sQ (sIf (AM.tOr (tCp eqP (eV 1) (eV 2)) (AM.tOr (tAn (tCp notinP (eV 1) (eV 3)) (tCp notinP (eV 2) (eV 3))) (tCp gtP (eCB fLen (lC (eB itemP (eV 0) (eC (.str "cords"))) lN)) (eC (.int 8))))) (sR (eC (.bl false))) sNx)
    (sQ (sIf (AM.tOr (tCp inP (eTup (lC (eV 1) (lC (eV 2) lN))) (eB itemP (eV 0) (eC (.str "cords")))) (tCp inP (eTup (lC (eV 2) (lC (eV 1) lN))) (eB itemP (eV 0) (eC (.str "cords"))))) (sR (eC (.bl false))) sNx)
    (sR (eCmp neP (eCall 2 m__law_net_place (lC (eV 0) (lC (eV 1) lN))) (eCall 2 m__law_net_place (lC (eV 0) (lC (eV 2) lN))))))))
def m__law_net_tied : Fn := mkFn N__law_net_tied.length b__law_net_tied
@[simp] theorem nl__law_net_tied : N__law_net_tied.length = 4 := rfl
def N__law_net_ring_drawn : List Str := ["pot", "own", "name", "names", "many", "one", "other", "share", "way", "place", "is_straight", "far", "part"]
def b__law_net_ring_drawn : SM :=
    (sQ (sPar 3 4 (lC (eCall 1 m__law_net_names (lC (eV 1) lN)) (lC (eB itemP (eV 1) (eC (.str "coords"))) lN)))
    (sQ (sPar 5 6 (lC (eCall 2 m__law_of (lC (eV 0) (lC (eV 3) lN))) (lC (eCall 2 m__law_of (lC (eV 0) (lC (eV 3) lN))) lN)))
    (sQ (sA (eCall 2 m__law_of (lC (eV 0) (lC (eLst false (lC (eTup (lC (eC (.int 1)) (lC (eC (.int 2)) lN))) (lC (eTup (lC (eC (.int 1)) (lC (eC (.int 3)) lN))) (lC (eTup (lC (eC (.int 2)) (lC (eC (.int 3)) lN))) (lC (eTup (lC (eC (.int 1)) (lC (eC (.int 2)) lN))) (lC (eTup (lC (eC (.int 3)) (lC (eC (.int 4)) lN))) lN)))))) lN))) (gN 7))
    (sQ (sA (eCall 2 m__law_row_less (lC (eCall 2 m__law_net_place (lC (eV 1) (lC (eV 6) lN))) (lC (eCall 2 m__law_net_place (lC (eV 1) (lC (eV 5) lN))) lN))) (gN 8))
    (sQ (sA (eCall 2 m__law_row_plus (lC (eCall 2 m__law_net_place (lC (eV 1) (lC (eV 5) lN))) (lC (eCall 2 m__law_row_times (lC (eV 8) (lC (eV 7) lN))) lN))) (gN 9))
    (sQ (sA (eAn (eCmp gtP (eCall 2 m__law_take (lC (eV 0) (lC (eC (.int 3)) lN))) (eC (.int 0))) (eCB fAll (lC (eLc (iSeq (eV 9)) [12] (gN 12) tY (eAn (eCmp leP (eB itemP (eV 12) (eC (.int 1))) (eC (.int 60))) (eCmp leP (eCB fAbs (lC (eB itemP (eV 12) (eC (.int 0))) lN)) (eC (.int 1000))))) lN))) (gN 10))
    (sQ (sA (eIf (tT (eV 10)) (eV 9) (eCall 2 m__law_net_spot (lC (eV 0) (lC (eV 4) lN)))) (gN 9))
    (sQ (sE (eBM "list" mAppend (eB itemP (eV 1) (eC (.str "rings"))) (lC (eTup (lC (eV 2) (lC (eV 9) (lC (eCB fTup (lC (eB (vMulA false) (eLst false (lC (eTup (lC (eC (.int 0)) (lC (eC (.int 1)) lN))) lN)) (eV 4)) lN)) lN)))) lN)))
    (sFor (iSeq (eIf (tT (eV 10)) (eTup (lC (eV 5) (lC (eV 6) lN))) (eTup (lC (eV 5) lN)))) (gN 11) (sIf (tT (eCall 3 m__law_net_tied (lC (eV 1) (lC (eV 2) (lC (eV 11) lN))))) (sE (eBM "list" mAppend (eB itemP (eV 1) (eC (.str "cords"))) (lC (eCall 2 m__law_of (lC (eV 0) (lC (eLst false (lC (eTup (lC (eV 2) (lC (eV 11) lN))) (lC (eTup (lC (eV 11) (lC (eV 2) lN))) lN))) lN))) lN))) sNx))))))))))
def m__law_net_ring_drawn : Fn := mkFn N__law_net_ring_drawn.length b__law_net_ring_drawn
@[simp] theorem nl__law_net_ring_drawn : N__law_net_ring_drawn.length = 13 := rfl
def N__law_net_weight : List Str := ["own", "name", "row"]
def b__law_net_weight : SM :=
    (sR (eB itemP (eLc (iSeq (eB itemP (eV 0) (eC (.str "rings")))) [2] (gN 2) (tCp eqP (eB itemP (eV 2) (eC (.int 0))) (eV 1)) (eB itemP (eV 2) (eC (.int 2)))) (eC (.int 0))))
def m__law_net_weight : Fn := mkFn N__law_net_weight.length b__law_net_weight
@[simp] theorem nl__law_net_weight : N__law_net_weight.length = 3 := rfl
def N__law_net_way : List Str := ["own", "cord", "name", "one", "other", "far"]
def b__law_net_way : SM :=
    (sQ (sA (eB itemP (eB itemP (eV 0) (eC (.str "cords"))) (eV 1)) (gU 2 (gsC (gN 3) (gsC (gN 4) gsN))))
    (sQ (sA (eIf (tCp eqP (eV 2) (eV 3)) (eV 4) (eV 3)) (gN 5))
    (sR (eCall 2 m__law_row_less (lC (eCall 2 m__law_net_place (lC (eV 0) (lC (eV 5) lN))) (lC (eCall 2 m__law_net_place (lC (eV 0) (lC (eV 2) lN))) lN))))))
def m__law_net_way : Fn := mkFn N__law_net_way.length b__law_net_way
@[simp] theorem nl__law_net_way : N__law_net_way.length = 6 := rfl
def N__law_net_left : List Str := ["own", "pulls", "name", "weighed", "found", "cord", "pull"]
def b__law_net_left : SM :=
    (sQ (sA (eIf (tT (eV 3)) (eCall 2 m__law_net_weight (lC (eV 0) (lC (eV 2) lN))) (eB (vMulA false) (eTup (lC (eTup (lC (eC (.int 0)) (lC (eC (.int 1)) lN))) lN)) (eB itemP (eV 0) (eC (.str "coords"))))) (gN 4))
    (sQ (sFor (iEn (lC (eV 1) lN)) (gT 2 (gsC (gN 5) (gsC (gN 6) gsN))) (sIf (tAn (tCp inP (eV 2) (eB itemP (eB itemP (eV 0) (eC (.str "cords"))) (eV 5))) (tCp neP (eB itemP (eV 6) (eC (.int 0))) (eC (.int 0)))) (sA (eCall 2 m__law_row_plus (lC (eV 4) (lC (eCall 2 m__law_row_times (lC (eCall 3 m__law_net_way (lC (eV 0) (lC (eV 5) (lC (eV 2) lN)))) (lC (eV 6) lN))) lN))) (gN 4)) sNx))
    (sR (eV 4))))
def m__law_net_left : Fn := mkFn N__law_net_left.length b__law_net_left
@[simp] theorem nl__law_net_left : N__law_net_left.length = 7 := rfl
def N__law_net_weighed : List Str := ["pot", "own", "way", "pulls", "found", "name", "place", "weight", "its", "cord", "one"]
def b__law_net_weighed : SM :=
    (sQ (sA (eCall 2 m__law_take (lC (eV 0) (lC (eC (.int 4)) lN))) (gN 2))
    (sQ (sA (eLc (iSeq (eB itemP (eV 1) (eC (.str "cords")))) [9] (gN 9) tY (eCall 2 m__law_of (lC (eV 0) (lC (eLst false (lC (eTup (lC (eC (.int 0)) (lC (eC (.int 1)) lN))) (lC (eTup (lC (eC (.int 1)) (lC (eC (.int 1)) lN))) (lC (eTup (lC (eC (.int 2)) (lC (eC (.int 1)) lN))) (lC (eTup (lC (eC (.int 0)) (lC (eC (.int 1)) lN))) (lC (eTup (lC (eC (.int 1)) (lC (eC (.int 2)) lN))) lN)))))) lN)))) (gN 3))
    (sQ (sA (eLst true lN) (gN 4))
    (sQ (sFor (iSeq (eB itemP (eV 1) (eC (.str "rings")))) (gT 3 (gsC (gN 5) (gsC (gN 6) (gsC (gN 7) gsN)))) (sQ (sA (eIf (tCp eqP (eV 2) (eC (.int 0))) (eV 7) (eCall 2 m__law_net_spot (lC (eV 0) (lC (eB itemP (eV 1) (eC (.str "coords"))) lN)))) (gN 8))
    (sQ (sIf (tCp gtP (eV 2) (eC (.int 1))) (sQ (sA (eCall 2 m__law_row_times (lC (eCall 4 m__law_net_left (lC (eV 1) (lC (eV 3) (lC (eV 5) (lC (eC (.bl false)) lN))))) (lC (eTup (lC (eU vNeg (eC (.int 1))) (lC (eC (.int 1)) lN))) lN))) (gN 8))
    (sA (eIf (tT (eCB fAll (lC (eLc (iSeq (eV 8)) [10] (gN 10) tY (eAn (eCmp leP (eB itemP (eV 10) (eC (.int 1))) (eC (.int 60))) (eCmp leP (eCB fAbs (lC (eB itemP (eV 10) (eC (.int 0))) lN)) (eC (.int 1000))))) lN))) (eV 8) (eV 7)) (gN 8))) sNx)
    (sE (eBM "list" mAppend (eV 4) (lC (eTup (lC (eV 5) (lC (eV 6) (lC (eV 8) lN)))) lN))))))
    (sR (eDct [("coords", (eB itemP (eV 1) (eC (.str "coords")))), ("pegs", (eB itemP (eV 1) (eC (.str "pegs")))), ("rings", (eV 4)), ("cords", (eB itemP (eV 1) (eC (.str "cords"))))]))))))
def m__law_net_weighed : Fn := mkFn N__law_net_weighed.length b__law_net_weighed
@[simp] theorem nl__law_net_weighed : N__law_net_weighed.length = 11 := rfl
def N__law_net_drawn : List Str := ["pot", "most", "many", "names", "own", "name", "rest", "lap", "one", "other"]
def b__law_net_drawn : SM :=
    (sQ (sPar 2 3 (lC (eCall 2 m__law_of (lC (eV 0) (lC (eLst false (lC (eC (.int 2)) (lC (eC (.int 2)) (lC (eC (.int 1)) (lC (eC (.int 3)) lN))))) lN))) (lC (eCall 3 m__law_some (lC (eV 0) (lC (eLst false (lC (eC (.str "a")) (lC (eC (.str "b")) (lC (eC (.str "c")) (lC (eC (.str "d")) (lC (eC (.str "moon")) (lC (eC (.str "z")) (lC (eC (.str "r")) (lC (eC (.str "s")) lN))))))))) (lC (eC (.int 8)) lN)))) lN)))
    (sQ (sA (eDct [("coords", (eV 2)), ("pegs", (eLst true lN)), ("rings", (eLst true lN)), ("cords", (eLst true lN))]) (gN 4))
    (sQ (sFor (iSeq (eSlice false (eV 3) oN (oS (eB (vAdd false) (eC (.int 1)) (eCall 2 m__law_take (lC (eV 0) (lC (eC (.int 4)) lN))))))) (gN 5) (sE (eBM "list" mAppend (eB itemP (eV 4) (eC (.str "pegs"))) (lC (eTup (lC (eV 5) (lC (eCall 2 m__law_net_spot (lC (eV 0) (lC (eV 2) lN))) lN))) lN))))
    (sQ (sA (eSlice false (eV 3) (oS (eCB fLen (lC (eB itemP (eV 4) (eC (.str "pegs"))) lN))) oN) (gN 6))
    (sQ (sFor (iSeq (eSlice false (eV 6) oN (oS (eCall 2 m__law_take (lC (eV 0) (lC (eB (vAdd false) (eV 1) (eC (.int 1))) lN)))))) (gN 5) (sE (eCall 3 m__law_net_ring_drawn (lC (eV 0) (lC (eV 4) (lC (eV 5) lN))))))
    (sQ (sFor (iRg1 (lC (eCall 2 m__law_take (lC (eV 0) (lC (eC (.int 4)) lN))) lN)) (gN 7) (sQ (sPar 8 9 (lC (eCall 2 m__law_of (lC (eV 0) (lC (eV 3) lN))) (lC (eCall 2 m__law_of (lC (eV 0) (lC (eV 3) lN))) lN)))
    (sIf (tAn (tCp inP (eV 8) (eCall 1 m__law_net_names (lC (eV 4) lN))) (tAn (tCp inP (eV 9) (eCall 1 m__law_net_names (lC (eV 4) lN))) (tT (eCall 3 m__law_net_tied (lC (eV 4) (lC (eV 8) (lC (eV 9) lN))))))) (sE (eBM "list" mAppend (eB itemP (eV 4) (eC (.str "cords"))) (lC (eTup (lC (eV 8) (lC (eV 9) lN))) lN))) sNx)))
    (sQ (sA (eCall 3 m__law_some (lC (eV 0) (lC (eB itemP (eV 4) (eC (.str "cords"))) (lC (eCB fLen (lC (eB itemP (eV 4) (eC (.str "cords"))) lN)) lN)))) (gS (eV 4) (eC (.str "cords"))))
    (sR (eCall 2 m__law_net_weighed (lC (eV 0) (lC (eV 4) lN)))))))))))
def m__law_net_drawn : Fn := mkFn N__law_net_drawn.length b__law_net_drawn
@[simp] theorem nl__law_net_drawn : N__law_net_drawn.length = 10 := rfl
def N_lines_of : List Str := ["text", "line"]
def b_lines_of : SM :=
    (sR (eLc (iSeq (eM1 (fSplit false) (eV 0) (eC (.str "\n")))) [1] (gN 1) tY (eM1 (fSplit false) (eV 1) (eC (.str " ")))))
def m_lines_of : Fn := mkFn N_lines_of.length b_lines_of
@[simp] theorem nl_lines_of : N_lines_of.length = 2 := rfl
def N_whole_in : List Str := ["word", "figures", "sign"]
def b_whole_in : SM :=
    (sQ (sA (eIf (tCp eqP (eSlice false (eV 0) oN (oS (eC (.int 1)))) (eC (.str "-"))) (eSlice false (eV 0) (oS (eC (.int 1))) oN) (eV 0)) (gN 1))
    (sQ (sIf (AM.tOr (tNt (tCh leP leP (eC (.int 1)) (eCB fLen (lC (eV 1) lN)) (eC (.int 4000)))) (tNt (tT (eCB fAll (lC (eLc (iSeq (eV 1)) [2] (gN 2) tY (eCmp inP (eV 2) (eC (.str "0123456789")))) lN))))) (sR (eC .non)) sNx)
    (sR (eIf (tAn (tCp eqP (eB itemP (eV 1) (eC (.int 0))) (eC (.str "0"))) (tCp neP (eV 0) (eC (.str "0")))) (eC .non) (eCB fInt (lC (eV 0) lN))))))
def m_whole_in : Fn := mkFn N_whole_in.length b_whole_in
@[simp] theorem nl_whole_in : N_whole_in.length = 3 := rfl
def N_is_whole : List Str := ["value"]
def b_is_whole : SM :=
    (sR (eAn (eIsi "int" (eV 0)) (eNt (eIsi "bool" (eV 0)))))
def m_is_whole : Fn := mkFn N_is_whole.length b_is_whole
@[simp] theorem nl_is_whole : N_is_whole.length = 1 := rfl
def N_is_integer : List Str := ["value", "low", "high"]
def b_is_integer : SM :=
    (sR (eAn (eCall 1 m_is_whole (lC (eV 0) lN)) (eCh leP leP (eV 1) (eV 0) (eV 2))))
def m_is_integer : Fn := mkFn N_is_integer.length b_is_integer
@[simp] theorem nl_is_integer : N_is_integer.length = 3 := rfl
def N_coords_in : List Str := ["words", "many"]
def b_coords_in : SM :=
    (sQ (sA (eIf (tAn (tCp eqP (eCB fLen (lC (eV 0) lN)) (eC (.int 2))) (tCp eqP (eB itemP (eV 0) (eC (.int 0))) (eC (.str "net")))) (eCall 1 m_whole_in (lC (eB itemP (eV 0) (eC (.int 1))) lN)) (eC .non)) (gN 1))
    (sR (eIf (tT (eCall 3 m_is_integer (lC (eV 1) (lC (eC (.int 1)) (lC (eC (.int 3)) lN))))) (eV 1) (eC .non))))
def m_coords_in : Fn := mkFn N_coords_in.length b_coords_in
@[simp] theorem nl_coords_in : N_coords_in.length = 2 := rfl
def N_Drafts_u_init_u : List Str := ["self", "coords"]
def b_Drafts_u_init_u : SM :=
    (sQ (sA (eV 1) (gSl "Drafts" 0 (eV 0)))
    (sA (eTup (lC eD0 (lC eD0 (lC (eLst true lN) lN)))) (gU 3 (gsC (gSl "Drafts" 2 (eV 0)) (gsC (gSl "Drafts" 3 (eV 0)) (gsC (gSl "Drafts" 1 (eV 0)) gsN))))))
def m_Drafts_u_init_u : Fn := mkFn N_Drafts_u_init_u.length b_Drafts_u_init_u
@[simp] theorem nl_Drafts_u_init_u : N_Drafts_u_init_u.length = 2 := rfl
def N_common : List Str := ["one", "other"]
def b_common : SM :=
    (sQ (sPar 0 1 (lC (eCB fAbs (lC (eV 0) lN)) (lC (eCB fAbs (lC (eV 1) lN)) lN)))
    (sQ (sWhile (tCp gtP (eV 1) (eC (.int 0))) (sPar 0 1 (lC (eV 1) (lC (eB vMod (eV 0) (eV 1)) lN))))
    (sR (eV 0))))
def m_common : Fn := mkFn N_common.length b_common
@[simp] theorem nl_common : N_common.length = 2 := rfl
def N_is_ratio : List Str := ["value", "one"]
def b_is_ratio : SM :=
    (sQ (sIf (AM.tOr (tNt (tT (eIsi "tuple" (eV 0)))) (AM.tOr (tCp neP (eCB fLen (lC (eV 0) lN)) (eC (.int 2))) (tNt (tT (eCB fAll (lC (eLc (iSeq (eV 0)) [1] (gN 1) tY (eCall 1 m_is_whole (lC (eV 1) lN))) lN)))))) (sR (eC (.bl false))) sNx)
    (sR (eAn (eCmp geP (eB itemP (eV 0) (eC (.int 1))) (eC (.int 1))) (eCmp eqP (eCall 2 m_common (lC (eB itemP (eV 0) (eC (.int 0))) (lC (eB itemP (eV 0) (eC (.int 1))) lN))) (eC (.int 1))))))
def m_is_ratio : Fn := mkFn N_is_ratio.length b_is_ratio
@[simp] theorem nl_is_ratio : N_is_ratio.length = 2 := rfl
def N_ratio_in : List Str := ["word", "numbers", "found", "one"]
def b_ratio_in : SM :=
    (sQ (sA (eLc (iSeq (eM1 (fSplit false) (eV 0) (eC (.str "/")))) [3] (gN 3) tY (eCall 1 m_whole_in (lC (eV 3) lN))) (gN 1))
    (sQ (sIf (AM.tOr (tCp inP (eC .non) (eV 1)) (tCp gtP (eCB fLen (lC (eV 1) lN)) (eC (.int 2)))) (sR (eC .non)) sNx)
    (sQ (sIf (tCp eqP (eCB fLen (lC (eV 1) lN)) (eC (.int 1))) (sR (eTup (lC (eB itemP (eV 1) (eC (.int 0))) (lC (eC (.int 1)) lN)))) sNx)
    (sQ (sA (eTup (lC (eB itemP (eV 1) (eC (.int 0))) (lC (eB itemP (eV 1) (eC (.int 1))) lN))) (gN 2))
    (sR (eIf (tAn (tCp gtP (eB itemP (eV 2) (eC (.int 1))) (eC (.int 1))) (tT (eCall 1 m_is_ratio (lC (eV 2) lN)))) (eV 2) (eC .non)))))))
def m_ratio_in : Fn := mkFn N_ratio_in.length b_ratio_in
@[simp] theorem nl_ratio_in : N_ratio_in.length = 4 := rfl
def N_is_number : List Str := ["value"]
def b_is_number : SM :=
    (sR (eAn (eCall 1 m_is_ratio (lC (eV 0) lN)) (eAn (eCmp leP (eCB fAbs (lC (eB itemP (eV 0) (eC (.int 0))) lN)) (eC (.int 1000))) (eCmp leP (eB itemP (eV 0) (eC (.int 1))) (eC (.int 60))))))
def m_is_number : Fn := mkFn N_is_number.length b_is_number
@[simp] theorem nl_is_number : N_is_number.length = 1 := rfl
def N_numbers_in : List Str := ["words", "many", "numbers", "word", "one"]
def b_numbers_in : SM :=
    (sQ (sA (eLc (iSeq (eV 0)) [3] (gN 3) tY (eCall 1 m_ratio_in (lC (eV 3) lN))) (gN 2))
    (sR (eIf (tAn (tCp eqP (eCB fLen (lC (eV 2) lN)) (eV 1)) (tT (eCB fAll (lC (eLc (iSeq (eV 2)) [4] (gN 4) tY (eCall 1 m_is_number (lC (eV 4) lN))) lN)))) (eCB fTup (lC (eV 2) lN)) (eC .non))))
def m_numbers_in : Fn := mkFn N_numbers_in.length b_numbers_in
@[simp] theorem nl_numbers_in : N_numbers_in.length = 5 := rfl
def N_is_name : List Str := ["value", "sign"]
def b_is_name : SM :=
    (sR (eAn (eIsi "str" (eV 0)) (eAn (eCh leP leP (eC (.int 1)) (eCB fLen (lC (eV 0) lN)) (eC (.int 6))) (eCB fAll (lC (eLc (iSeq (eV 0)) [1] (gN 1) tY (eCmp inP (eV 1) (eC (.str "abcdefghijklmnopqrstuvwxyz")))) lN)))))
def m_is_name : Fn := mkFn N_is_name.length b_is_name
@[simp] theorem nl_is_name : N_is_name.length = 2 := rfl
def N_Drafts_is_new : List Str := ["self", "name"]
def b_Drafts_is_new : SM :=
    (sR (eAn (eCall 1 m_is_name (lC (eV 1) lN)) (eAn (eCmp notinP (eV 1) (eSlot "Drafts" 2 (eV 0))) (eCmp notinP (eV 1) (eSlot "Drafts" 3 (eV 0))))))
def m_Drafts_is_new : Fn := mkFn N_Drafts_is_new.length b_Drafts_is_new
@[simp] theorem nl_Drafts_is_new : N_Drafts_is_new.length = 2 := rfl
def N_Drafts_put_peg : List Str := ["self", "words", "numbers"]
def b_Drafts_put_peg : SM :=
    (sQ (sA (eCall 2 m_numbers_in (lC (eSlice false (eV 1) (oS (eC (.int 2))) oN) (lC (eSlot "Drafts" 0 (eV 0)) lN))) (gN 2))
    (sQ (sIf (AM.tOr (tCp isP (eV 2) (eC .non)) (AM.tOr (tNt (tT (eMeth "Drafts" 2 m_Drafts_is_new (eV 0) (lC (eB itemP (eV 1) (eC (.int 1))) lN)))) (AM.tOr (tCp (eqD0 true) (eSlot "Drafts" 3 (eV 0)) eD0) (tCp neP (eSlot "Drafts" 1 (eV 0)) (eLst false lN))))) (sR (eC (.bl false))) sNx)
    (sQ (sA (eV 2) (gS (eSlot "Drafts" 2 (eV 0)) (eB itemP (eV 1) (eC (.int 1)))))
    (sR (eCmp leP (eCB fLen (lC (eSlot "Drafts" 2 (eV 0)) lN)) (eC (.int 16)))))))
def m_Drafts_put_peg : Fn := mkFn N_Drafts_put_peg.length b_Drafts_put_peg
@[simp] theorem nl_Drafts_put_peg : N_Drafts_put_peg.length = 3 := rfl
def N_Drafts_put_ring : List Str := ["self", "words", "numbers"]
def b_Drafts_put_ring : SM :=
    (sQ (sA (eCall 2 m_numbers_in (lC (eSlice false (eV 1) (oS (eC (.int 2))) oN) (lC (eB vMul (eC (.int 2)) (eSlot "Drafts" 0 (eV 0))) lN))) (gN 2))
    (sQ (sIf (AM.tOr (tCp isP (eV 2) (eC .non)) (AM.tOr (tNt (tT (eMeth "Drafts" 2 m_Drafts_is_new (eV 0) (lC (eB itemP (eV 1) (eC (.int 1))) lN)))) (AM.tOr (tCp (eqD0 false) (eSlot "Drafts" 2 (eV 0)) eD0) (tCp neP (eSlot "Drafts" 1 (eV 0)) (eLst false lN))))) (sR (eC (.bl false))) sNx)
    (sQ (sA (eTup (lC (eSlice false (eV 2) oN (oS (eSlot "Drafts" 0 (eV 0)))) (lC (eSlice false (eV 2) (oS (eSlot "Drafts" 0 (eV 0))) oN) lN))) (gS (eSlot "Drafts" 3 (eV 0)) (eB itemP (eV 1) (eC (.int 1)))))
    (sR (eCmp leP (eCB fLen (lC (eSlot "Drafts" 3 (eV 0)) lN)) (eC (.int 8)))))))
def m_Drafts_put_ring : Fn := mkFn N_Drafts_put_ring.length b_Drafts_put_ring
@[simp] theorem nl_Drafts_put_ring : N_Drafts_put_ring.length = 3 := rfl
def N_Drafts_place : List Str := ["self", "name"]
def b_Drafts_place : SM :=
    (sR (eIf (tCp inP (eV 1) (eSlot "Drafts" 2 (eV 0))) (eB itemP (eSlot "Drafts" 2 (eV 0)) (eV 1)) (eB itemP (eB itemP (eSlot "Drafts" 3 (eV 0)) (eV 1)) (eC (.int 0)))))
def m_Drafts_place : Fn := mkFn N_Drafts_place.length b_Drafts_place
@[simp] theorem nl_Drafts_place : N_Drafts_place.length = 2 := rfl
def N_Drafts_put_cord : List Str := ["self", "words", "ends", "end"]
def b_Drafts_put_cord : SM :=
    (sQ (sA (eCB fTup (lC (eSlice false (eV 1) (oS (eC (.int 1))) oN) lN)) (gN 2))
    (sQ (sIf (AM.tOr (tCp neP (eCB fLen (lC (eV 2) lN)) (eC (.int 2))) (tNt (tT (eCB fAll (lC (eLc (iSeq (eV 2)) [3] (gN 3) tY (eOr (eCmp inP (eV 3) (eSlot "Drafts" 2 (eV 0))) (eCmp inP (eV 3) (eSlot "Drafts" 3 (eV 0))))) lN))))) (sR (eC (.bl false))) sNx)
    (sQ (sIf (AM.tOr (tCp eqP (eMeth "Drafts" 2 m_Drafts_place (eV 0) (lC (eB itemP (eV 2) (eC (.int 0))) lN)) (eMeth "Drafts" 2 m_Drafts_place (eV 0) (lC (eB itemP (eV 2) (eC (.int 1))) lN))) (tNt (tT (eCB fAny (lC (eLc (iSeq (eV 2)) [3] (gN 3) tY (eCmp inP (eV 3) (eSlot "Drafts" 3 (eV 0)))) lN))))) (sR (eC (.bl false))) sNx)
    (sQ (sIf (AM.tOr (tCp inP (eV 2) (eSlot "Drafts" 1 (eV 0))) (tCp inP (eU revP (eV 2)) (eSlot "Drafts" 1 (eV 0)))) (sR (eC (.bl false))) sNx)
    (sQ (sE (eBM "list" mAppend (eSlot "Drafts" 1 (eV 0)) (lC (eV 2) lN)))
    (sR (eCmp leP (eCB fLen (lC (eSlot "Drafts" 1 (eV 0)) lN)) (eC (.int 20)))))))))
def m_Drafts_put_cord : Fn := mkFn N_Drafts_put_cord.length b_Drafts_put_cord
@[simp] theorem nl_Drafts_put_cord : N_Drafts_put_cord.length = 4 := rfl
def N_Drafts_put : List Str := ["self", "words"]
def b_Drafts_put : SM :=
    (sQ (sIf (tCp eqP (eB itemP (eV 1) (eC (.int 0))) (eC (.str "peg"))) (sR (eAn (eCmp gtP (eCB fLen (lC (eV 1) lN)) (eC (.int 1))) (eMeth "Drafts" 2 m_Drafts_put_peg (eV 0) (lC (eV 1) lN)))) sNx)
    (sQ (sIf (tCp eqP (eB itemP (eV 1) (eC (.int 0))) (eC (.str "ring"))) (sR (eAn (eCmp gtP (eCB fLen (lC (eV 1) lN)) (eC (.int 1))) (eMeth "Drafts" 2 m_Drafts_put_ring (eV 0) (lC (eV 1) lN)))) sNx)
    (sR (eAn (eCmp eqP (eB itemP (eV 1) (eC (.int 0))) (eC (.str "cord"))) (eMeth "Drafts" 2 m_Drafts_put_cord (eV 0) (lC (eV 1) lN))))))
def m_Drafts_put : Fn := mkFn N_Drafts_put.length b_Drafts_put
@[simp] theorem nl_Drafts_put : N_Drafts_put.length = 2 := rfl
def N_drafts_of : List Str := ["text", "rows", "coords", "found", "at", "words"]
def b_drafts_of : SM :=
    (sQ (sA (eCall 1 m_lines_of (lC (eV 0) lN)) (gN 1))
    (sQ (sA (eCall 1 m_coords_in (lC (eB itemP (eV 1) (eC (.int 0))) lN)) (gN 2))
    (sQ (sIf (tCp isP (eV 2) (eC .non)) sBad sNx)
    (sQ (sA (eNew "Drafts" 2 m_Drafts_u_init_u (lC (eV 2) lN)) (gN 3))
    (sQ (sFor (iEn (lC (eSlice false (eV 1) (oS (eC (.int 1))) oN) lN)) (gT 2 (gsC (gN 4) (gsC (gN 5) gsN))) (sIf (tNt (tT (eMeth "Drafts" 2 m_Drafts_put (eV 3) (lC (eV 5) lN)))) sBad sNx))
    (sQ (sIf (tCp (eqD0 false) (eSlot "Drafts" 2 (eV 3)) eD0) sBad sNx)
    (sR (eV 3))))))))
def m_drafts_of : Fn := mkFn N_drafts_of.length b_drafts_of
@[simp] theorem nl_drafts_of : N_drafts_of.length = 6 := rfl
def N_Net_u_init_u : List Str := ["self", "text"]
def b_Net_u_init_u : SM :=
    (sQ (sIf (tNt (tT (eIsi "str" (eV 1)))) sBad sNx)
    (sQ (sA (eTup (lC (eCall 1 m_drafts_of (lC (eV 1) lN)) (lC (eV 1) lN))) (gU 2 (gsC (gSl "Net" 1 (eV 0)) (gsC (gSl "Net" 3 (eV 0)) gsN))))
    (sA (eTup (lC (eCB fTup (lC (eSlot "Drafts" 1 (eSlot "Net" 1 (eV 0))) lN)) (lC eD0 lN))) (gU 2 (gsC (gSl "Net" 0 (eV 0)) (gsC (gSl "Net" 2 (eV 0)) gsN))))))
def m_Net_u_init_u : Fn := mkFn N_Net_u_init_u.length b_Net_u_init_u
@[simp] theorem nl_Net_u_init_u : N_Net_u_init_u.length = 2 := rfl
def N__law_frac_text : List Str := ["one"]
def b__law_frac_text : SM :=
    (sR (eIf (tCp eqP (eB itemP (eV 0) (eC (.int 1))) (eC (.int 1))) (eCB fStr (lC (eCB fInt (lC (eB itemP (eV 0) (eC (.int 0))) lN)) lN)) (eB (vAdd false) (eB (vAdd false) (eCB fStr (lC (eCB fInt (lC (eB itemP (eV 0) (eC (.int 0))) lN)) lN)) (eC (.str "/"))) (eCB fStr (lC (eCB fInt (lC (eB itemP (eV 0) (eC (.int 1))) lN)) lN)))))
def m__law_frac_text : Fn := mkFn N__law_frac_text.length b__law_frac_text
@[simp] theorem nl__law_frac_text : N__law_frac_text.length = 1 := rfl
def N__law_net_text : List Str := ["own", "lines", "name", "place", "weight", "one", "other"]
def b__law_net_text : SM :=
    (sQ (sA (eLst true (lC (eB (vAdd false) (eC (.str "net ")) (eCB fStr (lC (eB itemP (eV 0) (eC (.str "coords"))) lN))) lN)) (gN 1))
    (sQ (sFor (iSeq (eB itemP (eV 0) (eC (.str "pegs")))) (gT 2 (gsC (gN 2) (gsC (gN 3) gsN))) (sE (eBM "list" mAppend (eV 1) (lC (eM1 fJoin (eC (.str " ")) (eB (vAdd false) (eLst false (lC (eC (.str "peg")) (lC (eV 2) lN))) (eLc (iSeq (eV 3)) [5] (gN 5) tY (eCall 1 m__law_frac_text (lC (eV 5) lN))))) lN))))
    (sQ (sFor (iSeq (eB itemP (eV 0) (eC (.str "rings")))) (gT 3 (gsC (gN 2) (gsC (gN 3) (gsC (gN 4) gsN)))) (sE (eBM "list" mAppend (eV 1) (lC (eM1 fJoin (eC (.str " ")) (eB (vAdd false) (eLst false (lC (eC (.str "ring")) (lC (eV 2) lN))) (eLc (iSeq (eB (vAdd false) (eV 3) (eV 4))) [5] (gN 5) tY (eCall 1 m__law_frac_text (lC (eV 5) lN))))) lN))))
    (sR (eM1 fJoin (eC (.str "\n")) (eB (vAdd false) (eV 1) (eLc (iSeq (eB itemP (eV 0) (eC (.str "cords")))) [5, 6] (gT 2 (gsC (gN 5) (gsC (gN 6) gsN))) tY (eB (vAdd false) (eB (vAdd false) (eB (vAdd false) (eC (.str "cord ")) (eV 5)) (eC (.str " "))) (eV 6)))))))))
def m__law_net_text : Fn := mkFn N__law_net_text.length b__law_net_text
@[simp] theorem nl__law_net_text : N__law_net_text.length = 7 := rfl
def N__law_pulls_drawn : List Str := ["pot", "own", "some", "cord"]
def b__law_pulls_drawn : SM :=
    (sQ (sA (eLst false (lC (eTup (lC (eC (.int 0)) (lC (eC (.int 1)) lN))) (lC (eTup (lC (eC (.int 1)) (lC (eC (.int 1)) lN))) (lC (eTup (lC (eC (.int 2)) (lC (eC (.int 1)) lN))) (lC (eTup (lC (eC (.int 1)) (lC (eC (.int 2)) lN))) (lC (eTup (lC (eC (.int 7)) (lC (eC (.int 3)) lN))) (lC (eTup (lC (eC (.int 1)) (lC (eC (.int 9)) lN))) (lC (eTup (lC (eC (.int 1000)) (lC (eC (.int 1)) lN))) (lC (eTup (lC (eC (.int 0)) (lC (eC (.int 1)) lN))) lN))))))))) (gN 2))
    (sR (eCB fTup (lC (eLc (iSeq (eB itemP (eV 1) (eC (.str "cords")))) [3] (gN 3) tY (eCall 2 m__law_of (lC (eV 0) (lC (eV 2) lN)))) lN))))
def m__law_pulls_drawn : Fn := mkFn N__law_pulls_drawn.length b__law_pulls_drawn
@[simp] theorem nl__law_pulls_drawn : N__law_pulls_drawn.length = 4 := rfl
def N_is_tuple : List Str := ["value", "low", "high"]
def b_is_tuple : SM :=
    (sR (eAn (eIsi "tuple" (eV 0)) (eCh leP leP (eV 1) (eCB fLen (lC (eV 0) lN)) (eV 2))))
def m_is_tuple : Fn := mkFn N_is_tuple.length b_is_tuple
@[simp] theorem nl_is_tuple : N_is_tuple.length = 3 := rfl
def N_Net_cords : List Str := ["self"]
def b_Net_cords : SM :=
    (sR (eSlot "Net" 0 (eV 0)))
def m_Net_cords : Fn := mkFn N_Net_cords.length b_Net_cords
@[simp] theorem nl_Net_cords : N_Net_cords.length = 1 := rfl
def N_is_rate : List Str := ["value"]
def b_is_rate : SM :=
    (sR (eAn (eCall 1 m_is_ratio (lC (eV 0) lN)) (eCmp geP (eB itemP (eV 0) (eC (.int 0))) (eC (.int 0)))))
def m_is_rate : Fn := mkFn N_is_rate.length b_is_rate
@[simp] theorem nl_is_rate : N_is_rate.length = 1 := rfl
def N_are_pulls : List Str := ["net", "value", "pull"]
def b_are_pulls : SM :=
    (sR (eAn (eCall 3 m_is_tuple (lC (eV 1) (lC (eCB fLen (lC (eProp "Net" m_Net_cords (eV 0)) lN)) (lC (eCB fLen (lC (eProp "Net" m_Net_cords (eV 0)) lN)) lN)))) (eCB fAll (lC (eLc (iSeq (eV 1)) [2] (gN 2) tY (eCall 1 m_is_rate (lC (eV 2) lN))) lN))))
def m_are_pulls : Fn := mkFn N_are_pulls.length b_are_pulls
@[simp] theorem nl_are_pulls : N_are_pulls.length = 3 := rfl
def N_check_pulls : List Str := ["net", "pulls"]
def b_check_pulls : SM :=
    (sIf (tNt (tT (eCall 2 m_are_pulls (lC (eV 0) (lC (eV 1) lN))))) sBad sNx)
def m_check_pulls : Fn := mkFn N_check_pulls.length b_check_pulls
@[simp] theorem nl_check_pulls : N_check_pulls.length = 2 := rfl
def N_Net_rings : List Str := ["self"]
def b_Net_rings : SM :=
    (sR (eCB fTup (lC (eSlot "Drafts" 3 (eSlot "Net" 1 (eV 0))) lN)))
def m_Net_rings : Fn := mkFn N_Net_rings.length b_Net_rings
@[simp] theorem nl_Net_rings : N_Net_rings.length = 1 := rfl
def N_Net_coords : List Str := ["self"]
def b_Net_coords : SM :=
    (sR (eSlot "Drafts" 0 (eSlot "Net" 1 (eV 0))))
def m_Net_coords : Fn := mkFn N_Net_coords.length b_Net_coords
@[simp] theorem nl_Net_coords : N_Net_coords.length = 1 := rfl
def N_noughts_of : List Str := ["net"]
def b_noughts_of : SM :=
    (sR (eB (vMulA false) (eTup (lC (eC (.tup [(.int 0), (.int 1)])) lN)) (eProp "Net" m_Net_coords (eV 0))))
def m_noughts_of : Fn := mkFn N_noughts_of.length b_noughts_of
@[simp] theorem nl_noughts_of : N_noughts_of.length = 1 := rfl
def N_is_string : List Str := ["value", "some"]
def b_is_string : SM :=
    (sR (eAn (eIsi "str" (eV 0)) (eCmp inP (eV 0) (eV 1))))
def m_is_string : Fn := mkFn N_is_string.length b_is_string
@[simp] theorem nl_is_string : N_is_string.length = 2 := rfl
def N_Net_pegs : List Str := ["self"]
def b_Net_pegs : SM :=
    (sR (eCB fTup (lC (eSlot "Drafts" 2 (eSlot "Net" 1 (eV 0))) lN)))
def m_Net_pegs : Fn := mkFn N_Net_pegs.length b_Net_pegs
@[simp] theorem nl_Net_pegs : N_Net_pegs.length = 1 := rfl
def N_check_name : List Str := ["net", "name"]
def b_check_name : SM :=
    (sIf (tNt (tT (eCall 2 m_is_string (lC (eV 1) (lC (eTup (lS (eProp "Net" m_Net_pegs (eV 0)) (lS (eProp "Net" m_Net_rings (eV 0)) lN))) lN))))) sBad sNx)
def m_check_name : Fn := mkFn N_check_name.length b_check_name
@[simp] theorem nl_check_name : N_check_name.length = 2 := rfl
def N_cords_at : List Str := ["net", "name", "at", "ends"]
def b_cords_at : SM :=
    (sQ (sE (eCall 2 m_check_name (lC (eV 0) (lC (eV 1) lN))))
    (sR (eCB fTup (lC (eLc (iEn (lC (eProp "Net" m_Net_cords (eV 0)) lN)) [2, 3] (gT 2 (gsC (gN 2) (gsC (gN 3) gsN))) (tCp inP (eV 1) (eV 3)) (eV 2)) lN))))
def m_cords_at : Fn := mkFn N_cords_at.length b_cords_at
@[simp] theorem nl_cords_at : N_cords_at.length = 4 := rfl
def N_ratio : List Str := ["top", "bottom", "by"]
def b_ratio : SM :=
    (sQ (sA (eCall 2 m_common (lC (eV 0) (lC (eV 1) lN))) (gN 2))
    (sQ (sA (eIf (tCp gtP (eV 1) (eC (.int 0))) (eV 2) (eB vSub (eC (.int 0)) (eV 2))) (gN 2))
    (sR (eTup (lC (eB vDiv (eV 0) (eV 2)) (lC (eB vDiv (eV 1) (eV 2)) lN))))))
def m_ratio : Fn := mkFn N_ratio.length b_ratio
@[simp] theorem nl_ratio : N_ratio.length = 3 := rfl
def N_plus : List Str := ["one", "other"]
def b_plus : SM :=
    (sR (eCall 2 m_ratio (lC (eB (vAdd false) (eB vMul (eB itemP (eV 0) (eC (.int 0))) (eB itemP (eV 1) (eC (.int 1)))) (eB vMul (eB itemP (eV 1) (eC (.int 0))) (eB itemP (eV 0) (eC (.int 1))))) (lC (eB vMul (eB itemP (eV 0) (eC (.int 1))) (eB itemP (eV 1) (eC (.int 1)))) lN))))
def m_plus : Fn := mkFn N_plus.length b_plus
@[simp] theorem nl_plus : N_plus.length = 2 := rfl
def N_row_plus : List Str := ["one", "other", "mine", "its"]
def b_row_plus : SM :=
    (sR (eCB fTup (lC (eLc (iZp (lC (eV 0) (lC (eV 1) lN))) [2, 3] (gT 2 (gsC (gN 2) (gsC (gN 3) gsN))) tY (eCall 2 m_plus (lC (eV 2) (lC (eV 3) lN)))) lN)))
def m_row_plus : Fn := mkFn N_row_plus.length b_row_plus
@[simp] theorem nl_row_plus : N_row_plus.length = 4 := rfl
def N_times : List Str := ["one", "other"]
def b_times : SM :=
    (sR (eCall 2 m_ratio (lC (eB vMul (eB itemP (eV 0) (eC (.int 0))) (eB itemP (eV 1) (eC (.int 0)))) (lC (eB vMul (eB itemP (eV 0) (eC (.int 1))) (eB itemP (eV 1) (eC (.int 1)))) lN))))
def m_times : Fn := mkFn N_times.length b_times
@[simp] theorem nl_times : N_times.length = 2 := rfl
def N_row_times : List Str := ["row", "by", "one"]
def b_row_times : SM :=
    (sR (eCB fTup (lC (eLc (iSeq (eV 0)) [2] (gN 2) tY (eCall 2 m_times (lC (eV 2) (lC (eV 1) lN)))) lN)))
def m_row_times : Fn := mkFn N_row_times.length b_row_times
@[simp] theorem nl_row_times : N_row_times.length = 3 := rfl
def N_less : List Str := ["one", "other"]
def b_less : SM :=
    (sR (eCall 2 m_ratio (lC (eB vSub (eB vMul (eB itemP (eV 0) (eC (.int 0))) (eB itemP (eV 1) (eC (.int 1)))) (eB vMul (eB itemP (eV 1) (eC (.int 0))) (eB itemP (eV 0) (eC (.int 1))))) (lC (eB vMul (eB itemP (eV 0) (eC (.int 1))) (eB itemP (eV 1) (eC (.int 1)))) lN))))
def m_less : Fn := mkFn N_less.length b_less
@[simp] theorem nl_less : N_less.length = 2 := rfl
def N_row_less : List Str := ["one", "other", "mine", "its"]
def b_row_less : SM :=
    (sR (eCB fTup (lC (eLc (iZp (lC (eV 0) (lC (eV 1) lN))) [2, 3] (gT 2 (gsC (gN 2) (gsC (gN 3) gsN))) tY (eCall 2 m_less (lC (eV 2) (lC (eV 3) lN)))) lN)))
def m_row_less : Fn := mkFn N_row_less.length b_row_less
@[simp] theorem nl_row_less : N_row_less.length = 4 := rfl
def N_way_of : List Str := ["net", "cord", "one", "other"]
def b_way_of : SM :=
    (sQ (sA (eB itemP (eProp "Net" m_Net_cords (eV 0)) (eV 1)) (gU 2 (gsC (gN 2) (gsC (gN 3) gsN))))
    (sR (eCall 2 m_row_less (lC (eMeth "Drafts" 2 m_Drafts_place (eSlot "Net" 1 (eV 0)) (lC (eV 3) lN)) (lC (eMeth "Drafts" 2 m_Drafts_place (eSlot "Net" 1 (eV 0)) (lC (eV 2) lN)) lN)))))
def m_way_of : Fn := mkFn N_way_of.length b_way_of
@[simp] theorem nl_way_of : N_way_of.length = 4 := rfl
def N_way_from : List Str := ["net", "cord", "name", "way"]
def b_way_from : SM :=
    (sQ (sA (eCall 2 m_way_of (lC (eV 0) (lC (eV 1) lN))) (gN 3))
    (sR (eIf (tCp eqP (eB itemP (eB itemP (eProp "Net" m_Net_cords (eV 0)) (eV 1)) (eC (.int 0))) (eV 2)) (eV 3) (eCall 2 m_row_times (lC (eV 3) (lC (eC (.tup [(.int (-1)), (.int 1)])) lN))))))
def m_way_from : Fn := mkFn N_way_from.length b_way_from
@[simp] theorem nl_way_from : N_way_from.length = 4 := rfl
def N_left_at : List Str := ["net", "pulls", "ring", "found", "cord"]
def b_left_at : SM :=
    (sQ (sA (eCall 1 m_noughts_of (lC (eV 0) lN)) (gN 3))
    (sQ (sFor (iSeq (eCall 2 m_cords_at (lC (eV 0) (lC (eV 2) lN)))) (gN 4) (sA (eCall 2 m_row_plus (lC (eV 3) (lC (eCall 2 m_row_times (lC (eCall 3 m_way_from (lC (eV 0) (lC (eV 4) (lC (eV 2) lN)))) (lC (eB itemP (eV 1) (eV 4)) lN))) lN))) (gN 3)))
    (sR (eV 3))))
def m_left_at : Fn := mkFn N_left_at.length b_left_at
@[simp] theorem nl_left_at : N_left_at.length = 5 := rfl
def N_weight_of : List Str := ["net", "name"]
def b_weight_of : SM :=
    (sQ (sE (eCall 2 m_check_name (lC (eV 0) (lC (eV 1) lN))))
    (sR (eIf (tCp inP (eV 1) (eProp "Net" m_Net_rings (eV 0))) (eB itemP (eB itemP (eSlot "Drafts" 3 (eSlot "Net" 1 (eV 0))) (eV 1)) (eC (.int 1))) (eB (vMulA false) (eTup (lC (eC (.tup [(.int 0), (.int 1)])) lN)) (eProp "Net" m_Net_coords (eV 0))))))
def m_weight_of : Fn := mkFn N_weight_of.length b_weight_of
@[simp] theorem nl_weight_of : N_weight_of.length = 2 := rfl
def N_left_over : List Str := ["net", "pulls", "weighed", "found", "ring", "row"]
def b_left_over : SM :=
    (sQ (sE (eCall 2 m_check_pulls (lC (eV 0) (lC (eV 1) lN))))
    (sQ (sIf (tNt (tT (eIsi "bool" (eV 2)))) sBad sNx)
    (sQ (sA (eLc (iSeq (eProp "Net" m_Net_rings (eV 0))) [4] (gN 4) tY (eCall 3 m_left_at (lC (eV 0) (lC (eV 1) (lC (eV 4) lN))))) (gN 3))
    (sQ (sIf (tT (eV 2)) (sA (eLc (iZm (lC (eV 3) (lC (eProp "Net" m_Net_rings (eV 0)) lN))) [5, 4] (gT 2 (gsC (gN 5) (gsC (gN 4) gsN))) tY (eCall 2 m_row_plus (lC (eV 5) (lC (eCall 2 m_weight_of (lC (eV 0) (lC (eV 4) lN))) lN)))) (gN 3)) sNx)
    (sR (eCB fTup (lC (eV 3) lN)))))))
def m_left_over : Fn := mkFn N_left_over.length b_left_over
@[simp] theorem nl_left_over : N_left_over.length = 6 := rfl
def N__law_left : List Str := ["own", "pulls", "weighed", "name"]
def b__law_left : SM :=
    (sR (eCB fTup (lC (eLc (iSeq (eCall 1 m__law_net_rings (lC (eV 0) lN))) [3] (gN 3) tY (eCall 4 m__law_net_left (lC (eV 0) (lC (eV 1) (lC (eV 3) (lC (eV 2) lN)))))) lN)))
def m__law_left : Fn := mkFn N__law_left.length b__law_left
@[simp] theorem nl__law_left : N__law_left.length = 4 := rfl
def N__law_right : List Str := ["pot", "own", "net", "by", "one", "other", "both", "great", "pulls", "weighed"]
def b__law_right : SM :=
    (sQ (sA (eCall 2 m__law_net_drawn (lC (eV 0) (lC (eC (.int 4)) lN))) (gN 1))
    (sQ (sPar 2 3 (lC (eNew "Net" 2 m_Net_u_init_u (lC (eCall 1 m__law_net_text (lC (eV 1) lN)) lN)) (lC (eCall 2 m__law_of (lC (eV 0) (lC (eLst false (lC (eTup (lC (eC (.int 3)) (lC (eC (.int 1)) lN))) (lC (eTup (lC (eC (.int 1)) (lC (eC (.int 2)) lN))) (lC (eTup (lC (eC (.int 0)) (lC (eC (.int 1)) lN))) (lC (eTup (lC (eC (.int 5)) (lC (eC (.int 7)) lN))) lN))))) lN))) lN)))
    (sQ (sPar 4 5 (lC (eCall 2 m__law_pulls_drawn (lC (eV 0) (lC (eV 1) lN))) (lC (eCall 2 m__law_pulls_drawn (lC (eV 0) (lC (eV 1) lN))) lN)))
    (sQ (sPar 6 7 (lC (eCall 2 m__law_row_plus (lC (eV 4) (lC (eV 5) lN))) (lC (eCall 2 m__law_row_times (lC (eV 4) (lC (eV 3) lN))) lN)))
    (sQ (sFor (iSeq (eTup (lC (eV 4) (lC (eV 5) (lC (eV 6) (lC (eV 7) (lC (eB (vMulA false) (eTup (lC (eTup (lC (eC (.int 0)) (lC (eC (.int 1)) lN))) lN)) (eCB fLen (lC (eB itemP (eV 1) (eC (.str "cords"))) lN))) lN))))))) (gN 8) (sFor (iSeq (eTup (lC (eC (.bl true)) (lC (eC (.bl false)) lN)))) (gN 9) (sIf (tCp neP (eCB fRepr (lC (eCallK 0 3 3 [2, 1, 0] m_left_over lN (lC (eV 9) (lC (eV 8) (lC (eV 2) lN)))) lN)) (eCB fRepr (lC (eCall 3 m__law_left (lC (eV 1) (lC (eV 8) (lC (eV 9) lN)))) lN))) (sR (eC (.bl false))) sNx)))
    (sR (eC (.bl true))))))))
def m__law_right : Fn := mkFn N__law_right.length b__law_right
@[simp] theorem nl__law_right : N__law_right.length = 10 := rfl
def N__law_pot : List Str := ["script", "at", "cell", "own", "small"]
def b__law_pot : SM :=
    (sQ (sA (eIf (tCp ltP (eV 1) (eCB fLen (lC (eV 0) lN))) (eB itemP (eV 0) (eV 1)) (eB (vAdd false) (eB (vAdd false) (eB vMod (eCB fSum (lC (eSlice false (eV 0) oN (oS (eC (.int 1)))) lN)) (eC (.int 1000003))) (eB vMul (eC (.int 2643)) (eV 1))) (eC (.int 1647)))) (gN 2))
    (sQ (sA (eB vMul (eB vMod (eCB fInt (lC (eCB fAbs (lC (eV 2) lN)) lN)) (eB vPow (eB vPow (eC (.int 10)) (eC (.int 60))) (eC (.int 5)))) (eCB fInt (lC (eCmp geP (eCB fAbs (lC (eV 2) lN)) (eB vPow (eC (.int 10)) (eC (.int 18)))) lN))) (gN 3))
    (sQ (sA (eB vMod (eCB fInt (lC (eV 2) lN)) (eC (.int 2305843009213693951))) (gN 4))
    (sR (eLst true (lC (eV 3) (lC (eB vMod (eCB fInt (lC (eB (vAdd false) (eB (vAdd false) (eB vMul (eV 4) (eC (.int 80835))) (eB vMul (eB vMul (eC (.int 11171)) (eV 1)) (eV 1))) (eC (.int 1767))) lN)) (eC (.int 2305843009213693921))) (lC (eC (.int 0)) lN))))))))
def m__law_pot : Fn := mkFn N__law_pot.length b__law_pot
@[simp] theorem nl__law_pot : N__law_pot.length = 5 := rfl
def N_law : List Str := ["script", "at"]
def b_law : SM :=
    (sR (eCB fAll (lC (eLc (iSeq (eCall 2 m__law_cells (lC (eV 0) (lC (eC (.int 2)) lN)))) [1] (gN 1) tY (eCall 1 m__law_right (lC (eCall 2 m__law_pot (lC (eV 0) (lC (eV 1) lN))) lN))) lN)))
def m_law : Fn := mkFn N_law.length b_law
@[simp] theorem nl_law : N_law.length = 2 := rfl
end
end K14
/-! The walk, printed by gen.py. -/
namespace K14w
open PySem PySem.Spec PyProof.Rows L2 AM K14
def top (i : Nat) : Stmt := PySem.Challenge.pw_cordsatrest_k14_whole_what_pulls_leave_o.main.body.getD i (.Pass ⟨0, 0, 0, 0⟩)
abbrev R : PySem.W.OpenRow := PySem.W.OpenLaw.row PySem.Challenge.rw_cordsatrest_k14_whole_what_pulls_leave_o

/-! ### the defs -/
def d__law_cells : DefA := ⟨atG "_law_cells", "_law_cells", "_law_cells", defArgs (top 71), defBody (top 71), defScope (top 71)⟩
theorem sc__law_cells : FnScope N__law_cells ["script", "most"] (defScope (top 71)) := ⟨rfl, rfl, rfl, by decide +kernel, rfl, by decide +kernel, by decide +kernel⟩
theorem bp__law_cells : BindP (defArgs (top 71)) ["script", "most"] := fun _ _ _ _ _ _ _ _ _ _ us hl => match us, hl with | [_, _], _ => rfl
def d__law_take : DefA := ⟨atG "_law_take", "_law_take", "_law_take", defArgs (top 68), defBody (top 68), defScope (top 68)⟩
theorem sc__law_take : FnScope N__law_take ["pot", "upto"] (defScope (top 68)) := ⟨rfl, rfl, rfl, by decide +kernel, rfl, by decide +kernel, by decide +kernel⟩
theorem bp__law_take : BindP (defArgs (top 68)) ["pot", "upto"] := fun _ _ _ _ _ _ _ _ _ _ us hl => match us, hl with | [_, _], _ => rfl
def d__law_some : DefA := ⟨atG "_law_some", "_law_some", "_law_some", defArgs (top 70), defBody (top 70), defScope (top 70)⟩
theorem sc__law_some : FnScope N__law_some ["pot", "pool", "many"] (defScope (top 70)) := ⟨rfl, rfl, rfl, by decide +kernel, rfl, by decide +kernel, by decide +kernel⟩
theorem bp__law_some : BindP (defArgs (top 70)) ["pot", "pool", "many"] := fun _ _ _ _ _ _ _ _ _ _ us hl => match us, hl with | [_, _, _], _ => rfl
def d__law_of : DefA := ⟨atG "_law_of", "_law_of", "_law_of", defArgs (top 69), defBody (top 69), defScope (top 69)⟩
theorem sc__law_of : FnScope N__law_of ["pot", "some"] (defScope (top 69)) := ⟨rfl, rfl, rfl, by decide +kernel, rfl, by decide +kernel, by decide +kernel⟩
theorem bp__law_of : BindP (defArgs (top 69)) ["pot", "some"] := fun _ _ _ _ _ _ _ _ _ _ us hl => match us, hl with | [_, _], _ => rfl
def d__law_net_fraction : DefA := ⟨atG "_law_net_fraction", "_law_net_fraction", "_law_net_fraction", defArgs (top 88), defBody (top 88), defScope (top 88)⟩
theorem sc__law_net_fraction : FnScope N__law_net_fraction ["pot"] (defScope (top 88)) := ⟨rfl, rfl, rfl, by decide +kernel, rfl, by decide +kernel, by decide +kernel⟩
theorem bp__law_net_fraction : BindP (defArgs (top 88)) ["pot"] := fun _ _ _ _ _ _ _ _ _ _ us hl => match us, hl with | [_], _ => rfl
def d__law_net_spot : DefA := ⟨atG "_law_net_spot", "_law_net_spot", "_law_net_spot", defArgs (top 89), defBody (top 89), defScope (top 89)⟩
theorem sc__law_net_spot : FnScope N__law_net_spot ["pot", "many"] (defScope (top 89)) := ⟨rfl, rfl, rfl, by decide +kernel, rfl, by decide +kernel, by decide +kernel⟩
theorem bp__law_net_spot : BindP (defArgs (top 89)) ["pot", "many"] := fun _ _ _ _ _ _ _ _ _ _ us hl => match us, hl with | [_, _], _ => rfl
def d__law_net_names : DefA := ⟨atG "_law_net_names", "_law_net_names", "_law_net_names", defArgs (top 82), defBody (top 82), defScope (top 82)⟩
theorem sc__law_net_names : FnScope N__law_net_names ["own"] (defScope (top 82)) := ⟨rfl, rfl, rfl, by decide +kernel, rfl, by decide +kernel, by decide +kernel⟩
theorem bp__law_net_names : BindP (defArgs (top 82)) ["own"] := fun _ _ _ _ _ _ _ _ _ _ us hl => match us, hl with | [_], _ => rfl
def d__law_frac_common : DefA := ⟨atG "_law_frac_common", "_law_frac_common", "_law_frac_common", defArgs (top 72), defBody (top 72), defScope (top 72)⟩
theorem sc__law_frac_common : FnScope N__law_frac_common ["one", "other"] (defScope (top 72)) := ⟨rfl, rfl, rfl, by decide +kernel, rfl, by decide +kernel, by decide +kernel⟩
theorem bp__law_frac_common : BindP (defArgs (top 72)) ["one", "other"] := fun _ _ _ _ _ _ _ _ _ _ us hl => match us, hl with | [_, _], _ => rfl
def d__law_frac : DefA := ⟨atG "_law_frac", "_law_frac", "_law_frac", defArgs (top 73), defBody (top 73), defScope (top 73)⟩
theorem sc__law_frac : FnScope N__law_frac ["top", "bottom"] (defScope (top 73)) := ⟨rfl, rfl, rfl, by decide +kernel, rfl, by decide +kernel, by decide +kernel⟩
theorem bp__law_frac : BindP (defArgs (top 73)) ["top", "bottom"] := fun _ _ _ _ _ _ _ _ _ _ us hl => match us, hl with | [_, _], _ => rfl
def d__law_frac_less : DefA := ⟨atG "_law_frac_less", "_law_frac_less", "_law_frac_less", defArgs (top 75), defBody (top 75), defScope (top 75)⟩
theorem sc__law_frac_less : FnScope N__law_frac_less ["one", "other"] (defScope (top 75)) := ⟨rfl, rfl, rfl, by decide +kernel, rfl, by decide +kernel, by decide +kernel⟩
theorem bp__law_frac_less : BindP (defArgs (top 75)) ["one", "other"] := fun _ _ _ _ _ _ _ _ _ _ us hl => match us, hl with | [_, _], _ => rfl
def d__law_row_less : DefA := ⟨atG "_law_row_less", "_law_row_less", "_law_row_less", defArgs (top 79), defBody (top 79), defScope (top 79)⟩
theorem sc__law_row_less : FnScope N__law_row_less ["one", "other"] (defScope (top 79)) := ⟨rfl, rfl, rfl, by decide +kernel, rfl, by decide +kernel, by decide +kernel⟩
theorem bp__law_row_less : BindP (defArgs (top 79)) ["one", "other"] := fun _ _ _ _ _ _ _ _ _ _ us hl => match us, hl with | [_, _], _ => rfl
def d__law_net_place : DefA := ⟨atG "_law_net_place", "_law_net_place", "_law_net_place", defArgs (top 84), defBody (top 84), defScope (top 84)⟩
theorem sc__law_net_place : FnScope N__law_net_place ["own", "name"] (defScope (top 84)) := ⟨rfl, rfl, rfl, by decide +kernel, rfl, by decide +kernel, by decide +kernel⟩
theorem bp__law_net_place : BindP (defArgs (top 84)) ["own", "name"] := fun _ _ _ _ _ _ _ _ _ _ us hl => match us, hl with | [_, _], _ => rfl
def d__law_frac_plus : DefA := ⟨atG "_law_frac_plus", "_law_frac_plus", "_law_frac_plus", defArgs (top 74), defBody (top 74), defScope (top 74)⟩
theorem sc__law_frac_plus : FnScope N__law_frac_plus ["one", "other"] (defScope (top 74)) := ⟨rfl, rfl, rfl, by decide +kernel, rfl, by decide +kernel, by decide +kernel⟩
theorem bp__law_frac_plus : BindP (defArgs (top 74)) ["one", "other"] := fun _ _ _ _ _ _ _ _ _ _ us hl => match us, hl with | [_, _], _ => rfl
def d__law_row_plus : DefA := ⟨atG "_law_row_plus", "_law_row_plus", "_law_row_plus", defArgs (top 78), defBody (top 78), defScope (top 78)⟩
theorem sc__law_row_plus : FnScope N__law_row_plus ["one", "other"] (defScope (top 78)) := ⟨rfl, rfl, rfl, by decide +kernel, rfl, by decide +kernel, by decide +kernel⟩
theorem bp__law_row_plus : BindP (defArgs (top 78)) ["one", "other"] := fun _ _ _ _ _ _ _ _ _ _ us hl => match us, hl with | [_, _], _ => rfl
def d__law_frac_times : DefA := ⟨atG "_law_frac_times", "_law_frac_times", "_law_frac_times", defArgs (top 76), defBody (top 76), defScope (top 76)⟩
theorem sc__law_frac_times : FnScope N__law_frac_times ["one", "other"] (defScope (top 76)) := ⟨rfl, rfl, rfl, by decide +kernel, rfl, by decide +kernel, by decide +kernel⟩
theorem bp__law_frac_times : BindP (defArgs (top 76)) ["one", "other"] := fun _ _ _ _ _ _ _ _ _ _ us hl => match us, hl with | [_, _], _ => rfl
def d__law_row_times : DefA := ⟨atG "_law_row_times", "_law_row_times", "_law_row_times", defArgs (top 80), defBody (top 80), defScope (top 80)⟩
theorem sc__law_row_times : FnScope N__law_row_times ["row", "by"] (defScope (top 80)) := ⟨rfl, rfl, rfl, by decide +kernel, rfl, by decide +kernel, by decide +kernel⟩
theorem bp__law_row_times : BindP (defArgs (top 80)) ["row", "by"] := fun _ _ _ _ _ _ _ _ _ _ us hl => match us, hl with | [_, _], _ => rfl
def d__law_net_rings : DefA := ⟨atG "_law_net_rings", "_law_net_rings", "_law_net_rings", defArgs (top 83), defBody (top 83), defScope (top 83)⟩
theorem sc__law_net_rings : FnScope N__law_net_rings ["own"] (defScope (top 83)) := ⟨rfl, rfl, rfl, by decide +kernel, rfl, by decide +kernel, by decide +kernel⟩
theorem bp__law_net_rings : BindP (defArgs (top 83)) ["own"] := fun _ _ _ _ _ _ _ _ _ _ us hl => match us, hl with | [_], _ => rfl
def d__law_net_tied : DefA := ⟨atG "_law_net_tied", "_law_net_tied", "_law_net_tied", defArgs (top 90), defBody (top 90), defScope (top 90)⟩
theorem sc__law_net_tied : FnScope N__law_net_tied ["own", "one", "other"] (defScope (top 90)) := ⟨rfl, rfl, rfl, by decide +kernel, rfl, by decide +kernel, by decide +kernel⟩
theorem bp__law_net_tied : BindP (defArgs (top 90)) ["own", "one", "other"] := fun _ _ _ _ _ _ _ _ _ _ us hl => match us, hl with | [_, _, _], _ => rfl
def d__law_net_ring_drawn : DefA := ⟨atG "_law_net_ring_drawn", "_law_net_ring_drawn", "_law_net_ring_drawn", defArgs (top 91), defBody (top 91), defScope (top 91)⟩
theorem sc__law_net_ring_drawn : FnScope N__law_net_ring_drawn ["pot", "own", "name"] (defScope (top 91)) := ⟨rfl, rfl, rfl, by decide +kernel, rfl, by decide +kernel, by decide +kernel⟩
theorem bp__law_net_ring_drawn : BindP (defArgs (top 91)) ["pot", "own", "name"] := fun _ _ _ _ _ _ _ _ _ _ us hl => match us, hl with | [_, _, _], _ => rfl
def d__law_net_weight : DefA := ⟨atG "_law_net_weight", "_law_net_weight", "_law_net_weight", defArgs (top 85), defBody (top 85), defScope (top 85)⟩
theorem sc__law_net_weight : FnScope N__law_net_weight ["own", "name"] (defScope (top 85)) := ⟨rfl, rfl, rfl, by decide +kernel, rfl, by decide +kernel, by decide +kernel⟩
theorem bp__law_net_weight : BindP (defArgs (top 85)) ["own", "name"] := fun _ _ _ _ _ _ _ _ _ _ us hl => match us, hl with | [_, _], _ => rfl
def d__law_net_way : DefA := ⟨atG "_law_net_way", "_law_net_way", "_law_net_way", defArgs (top 86), defBody (top 86), defScope (top 86)⟩
theorem sc__law_net_way : FnScope N__law_net_way ["own", "cord", "name"] (defScope (top 86)) := ⟨rfl, rfl, rfl, by decide +kernel, rfl, by decide +kernel, by decide +kernel⟩
theorem bp__law_net_way : BindP (defArgs (top 86)) ["own", "cord", "name"] := fun _ _ _ _ _ _ _ _ _ _ us hl => match us, hl with | [_, _, _], _ => rfl
def d__law_net_left : DefA := ⟨atG "_law_net_left", "_law_net_left", "_law_net_left", defArgs (top 87), defBody (top 87), defScope (top 87)⟩
theorem sc__law_net_left : FnScope N__law_net_left ["own", "pulls", "name", "weighed"] (defScope (top 87)) := ⟨rfl, rfl, rfl, by decide +kernel, rfl, by decide +kernel, by decide +kernel⟩
theorem bp__law_net_left : BindP (defArgs (top 87)) ["own", "pulls", "name", "weighed"] := fun _ _ _ _ _ _ _ _ _ _ us hl => match us, hl with | [_, _, _, _], _ => rfl
def d__law_net_weighed : DefA := ⟨atG "_law_net_weighed", "_law_net_weighed", "_law_net_weighed", defArgs (top 92), defBody (top 92), defScope (top 92)⟩
theorem sc__law_net_weighed : FnScope N__law_net_weighed ["pot", "own"] (defScope (top 92)) := ⟨rfl, rfl, rfl, by decide +kernel, rfl, by decide +kernel, by decide +kernel⟩
theorem bp__law_net_weighed : BindP (defArgs (top 92)) ["pot", "own"] := fun _ _ _ _ _ _ _ _ _ _ us hl => match us, hl with | [_, _], _ => rfl
def d__law_net_drawn : DefA := ⟨atG "_law_net_drawn", "_law_net_drawn", "_law_net_drawn", defArgs (top 93), defBody (top 93), defScope (top 93)⟩
theorem sc__law_net_drawn : FnScope N__law_net_drawn ["pot", "most"] (defScope (top 93)) := ⟨rfl, rfl, rfl, by decide +kernel, rfl, by decide +kernel, by decide +kernel⟩
theorem bp__law_net_drawn : BindP (defArgs (top 93)) ["pot", "most"] := fun _ _ _ _ _ _ _ _ _ _ us hl => match us, hl with | [_, _], _ => rfl
def d_lines_of : DefA := ⟨atG "lines_of", "lines_of", "lines_of", defArgs (top 33), defBody (top 33), defScope (top 33)⟩
theorem sc_lines_of : FnScope N_lines_of ["text"] (defScope (top 33)) := ⟨rfl, rfl, rfl, by decide +kernel, rfl, by decide +kernel, by decide +kernel⟩
theorem bp_lines_of : BindP (defArgs (top 33)) ["text"] := fun _ _ _ _ _ _ _ _ _ _ us hl => match us, hl with | [_], _ => rfl
def d_whole_in : DefA := ⟨atG "whole_in", "whole_in", "whole_in", defArgs (top 18), defBody (top 18), defScope (top 18)⟩
theorem sc_whole_in : FnScope N_whole_in ["word"] (defScope (top 18)) := ⟨rfl, rfl, rfl, by decide +kernel, rfl, by decide +kernel, by decide +kernel⟩
theorem bp_whole_in : BindP (defArgs (top 18)) ["word"] := fun _ _ _ _ _ _ _ _ _ _ us hl => match us, hl with | [_], _ => rfl
def d_is_whole : DefA := ⟨atG "is_whole", "is_whole", "is_whole", defArgs (top 7), defBody (top 7), defScope (top 7)⟩
theorem sc_is_whole : FnScope N_is_whole ["value"] (defScope (top 7)) := ⟨rfl, rfl, rfl, by decide +kernel, rfl, by decide +kernel, by decide +kernel⟩
theorem bp_is_whole : BindP (defArgs (top 7)) ["value"] := fun _ _ _ _ _ _ _ _ _ _ us hl => match us, hl with | [_], _ => rfl
def d_is_integer : DefA := ⟨atG "is_integer", "is_integer", "is_integer", defArgs (top 27), defBody (top 27), defScope (top 27)⟩
theorem sc_is_integer : FnScope N_is_integer ["value", "low", "high"] (defScope (top 27)) := ⟨rfl, rfl, rfl, by decide +kernel, rfl, by decide +kernel, by decide +kernel⟩
theorem bp_is_integer : BindP (defArgs (top 27)) ["value", "low", "high"] := fun _ _ _ _ _ _ _ _ _ _ us hl => match us, hl with | [_, _, _], _ => rfl
def d_coords_in : DefA := ⟨atG "coords_in", "coords_in", "coords_in", defArgs (top 50), defBody (top 50), defScope (top 50)⟩
theorem sc_coords_in : FnScope N_coords_in ["words"] (defScope (top 50)) := ⟨rfl, rfl, rfl, by decide +kernel, rfl, by decide +kernel, by decide +kernel⟩
theorem bp_coords_in : BindP (defArgs (top 50)) ["words"] := fun _ _ _ _ _ _ _ _ _ _ us hl => match us, hl with | [_], _ => rfl
def d_Drafts_u_init_u : DefA := ⟨atM "Drafts" "__init__", "__init__", "Drafts.__init__", defArgs (memS (top 52) 1), defBody (memS (top 52) 1), defScope (memS (top 52) 1)⟩
theorem sc_Drafts_u_init_u : FnScope N_Drafts_u_init_u ["self", "coords"] (defScope (memS (top 52) 1)) := ⟨rfl, rfl, rfl, by decide +kernel, rfl, by decide +kernel, by decide +kernel⟩
theorem bp_Drafts_u_init_u : BindP (defArgs (memS (top 52) 1)) ["self", "coords"] := fun _ _ _ _ _ _ _ _ _ _ us hl => match us, hl with | [_, _], _ => rfl
theorem bk1_Drafts_u_init_u : BindK (defArgs (memS (top 52) 1)) ["self", "coords"] 1 ["coords"] [0, 1] := fun _ _ _ _ _ _ _ _ _ _ us ws h1 h2 => match us, ws, h1, h2 with | [_], [_], _, _ => rfl
def d_common : DefA := ⟨atG "common", "common", "common", defArgs (top 8), defBody (top 8), defScope (top 8)⟩
theorem sc_common : FnScope N_common ["one", "other"] (defScope (top 8)) := ⟨rfl, rfl, rfl, by decide +kernel, rfl, by decide +kernel, by decide +kernel⟩
theorem bp_common : BindP (defArgs (top 8)) ["one", "other"] := fun _ _ _ _ _ _ _ _ _ _ us hl => match us, hl with | [_, _], _ => rfl
def d_is_ratio : DefA := ⟨atG "is_ratio", "is_ratio", "is_ratio", defArgs (top 16), defBody (top 16), defScope (top 16)⟩
theorem sc_is_ratio : FnScope N_is_ratio ["value"] (defScope (top 16)) := ⟨rfl, rfl, rfl, by decide +kernel, rfl, by decide +kernel, by decide +kernel⟩
theorem bp_is_ratio : BindP (defArgs (top 16)) ["value"] := fun _ _ _ _ _ _ _ _ _ _ us hl => match us, hl with | [_], _ => rfl
def d_ratio_in : DefA := ⟨atG "ratio_in", "ratio_in", "ratio_in", defArgs (top 19), defBody (top 19), defScope (top 19)⟩
theorem sc_ratio_in : FnScope N_ratio_in ["word"] (defScope (top 19)) := ⟨rfl, rfl, rfl, by decide +kernel, rfl, by decide +kernel, by decide +kernel⟩
theorem bp_ratio_in : BindP (defArgs (top 19)) ["word"] := fun _ _ _ _ _ _ _ _ _ _ us hl => match us, hl with | [_], _ => rfl
def d_is_number : DefA := ⟨atG "is_number", "is_number", "is_number", defArgs (top 31), defBody (top 31), defScope (top 31)⟩
theorem sc_is_number : FnScope N_is_number ["value"] (defScope (top 31)) := ⟨rfl, rfl, rfl, by decide +kernel, rfl, by decide +kernel, by decide +kernel⟩
theorem bp_is_number : BindP (defArgs (top 31)) ["value"] := fun _ _ _ _ _ _ _ _ _ _ us hl => match us, hl with | [_], _ => rfl
def d_numbers_in : DefA := ⟨atG "numbers_in", "numbers_in", "numbers_in", defArgs (top 51), defBody (top 51), defScope (top 51)⟩
theorem sc_numbers_in : FnScope N_numbers_in ["words", "many"] (defScope (top 51)) := ⟨rfl, rfl, rfl, by decide +kernel, rfl, by decide +kernel, by decide +kernel⟩
theorem bp_numbers_in : BindP (defArgs (top 51)) ["words", "many"] := fun _ _ _ _ _ _ _ _ _ _ us hl => match us, hl with | [_, _], _ => rfl
def d_is_name : DefA := ⟨atG "is_name", "is_name", "is_name", defArgs (top 30), defBody (top 30), defScope (top 30)⟩
theorem sc_is_name : FnScope N_is_name ["value"] (defScope (top 30)) := ⟨rfl, rfl, rfl, by decide +kernel, rfl, by decide +kernel, by decide +kernel⟩
theorem bp_is_name : BindP (defArgs (top 30)) ["value"] := fun _ _ _ _ _ _ _ _ _ _ us hl => match us, hl with | [_], _ => rfl
def d_Drafts_is_new : DefA := ⟨atM "Drafts" "is_new", "is_new", "Drafts.is_new", defArgs (memS (top 52) 3), defBody (memS (top 52) 3), defScope (memS (top 52) 3)⟩
theorem sc_Drafts_is_new : FnScope N_Drafts_is_new ["self", "name"] (defScope (memS (top 52) 3)) := ⟨rfl, rfl, rfl, by decide +kernel, rfl, by decide +kernel, by decide +kernel⟩
theorem bp_Drafts_is_new : BindP (defArgs (memS (top 52) 3)) ["self", "name"] := fun _ _ _ _ _ _ _ _ _ _ us hl => match us, hl with | [_, _], _ => rfl
def d_Drafts_put_peg : DefA := ⟨atM "Drafts" "put_peg", "put_peg", "Drafts.put_peg", defArgs (memS (top 52) 4), defBody (memS (top 52) 4), defScope (memS (top 52) 4)⟩
theorem sc_Drafts_put_peg : FnScope N_Drafts_put_peg ["self", "words"] (defScope (memS (top 52) 4)) := ⟨rfl, rfl, rfl, by decide +kernel, rfl, by decide +kernel, by decide +kernel⟩
theorem bp_Drafts_put_peg : BindP (defArgs (memS (top 52) 4)) ["self", "words"] := fun _ _ _ _ _ _ _ _ _ _ us hl => match us, hl with | [_, _], _ => rfl
def d_Drafts_put_ring : DefA := ⟨atM "Drafts" "put_ring", "put_ring", "Drafts.put_ring", defArgs (memS (top 52) 5), defBody (memS (top 52) 5), defScope (memS (top 52) 5)⟩
theorem sc_Drafts_put_ring : FnScope N_Drafts_put_ring ["self", "words"] (defScope (memS (top 52) 5)) := ⟨rfl, rfl, rfl, by decide +kernel, rfl, by decide +kernel, by decide +kernel⟩
theorem bp_Drafts_put_ring : BindP (defArgs (memS (top 52) 5)) ["self", "words"] := fun _ _ _ _ _ _ _ _ _ _ us hl => match us, hl with | [_, _], _ => rfl
def d_Drafts_place : DefA := ⟨atM "Drafts" "place", "place", "Drafts.place", defArgs (memS (top 52) 2), defBody (memS (top 52) 2), defScope (memS (top 52) 2)⟩
theorem sc_Drafts_place : FnScope N_Drafts_place ["self", "name"] (defScope (memS (top 52) 2)) := ⟨rfl, rfl, rfl, by decide +kernel, rfl, by decide +kernel, by decide +kernel⟩
theorem bp_Drafts_place : BindP (defArgs (memS (top 52) 2)) ["self", "name"] := fun _ _ _ _ _ _ _ _ _ _ us hl => match us, hl with | [_, _], _ => rfl
def d_Drafts_put_cord : DefA := ⟨atM "Drafts" "put_cord", "put_cord", "Drafts.put_cord", defArgs (memS (top 52) 6), defBody (memS (top 52) 6), defScope (memS (top 52) 6)⟩
theorem sc_Drafts_put_cord : FnScope N_Drafts_put_cord ["self", "words"] (defScope (memS (top 52) 6)) := ⟨rfl, rfl, rfl, by decide +kernel, rfl, by decide +kernel, by decide +kernel⟩
theorem bp_Drafts_put_cord : BindP (defArgs (memS (top 52) 6)) ["self", "words"] := fun _ _ _ _ _ _ _ _ _ _ us hl => match us, hl with | [_, _], _ => rfl
def d_Drafts_put : DefA := ⟨atM "Drafts" "put", "put", "Drafts.put", defArgs (memS (top 52) 7), defBody (memS (top 52) 7), defScope (memS (top 52) 7)⟩
theorem sc_Drafts_put : FnScope N_Drafts_put ["self", "words"] (defScope (memS (top 52) 7)) := ⟨rfl, rfl, rfl, by decide +kernel, rfl, by decide +kernel, by decide +kernel⟩
theorem bp_Drafts_put : BindP (defArgs (memS (top 52) 7)) ["self", "words"] := fun _ _ _ _ _ _ _ _ _ _ us hl => match us, hl with | [_, _], _ => rfl
def d_drafts_of : DefA := ⟨atG "drafts_of", "drafts_of", "drafts_of", defArgs (top 53), defBody (top 53), defScope (top 53)⟩
theorem sc_drafts_of : FnScope N_drafts_of ["text"] (defScope (top 53)) := ⟨rfl, rfl, rfl, by decide +kernel, rfl, by decide +kernel, by decide +kernel⟩
theorem bp_drafts_of : BindP (defArgs (top 53)) ["text"] := fun _ _ _ _ _ _ _ _ _ _ us hl => match us, hl with | [_], _ => rfl
def d_Net_u_init_u : DefA := ⟨atM "Net" "__init__", "__init__", "Net.__init__", defArgs (memS (top 54) 1), defBody (memS (top 54) 1), defScope (memS (top 54) 1)⟩
theorem sc_Net_u_init_u : FnScope N_Net_u_init_u ["self", "text"] (defScope (memS (top 54) 1)) := ⟨rfl, rfl, rfl, by decide +kernel, rfl, by decide +kernel, by decide +kernel⟩
theorem bp_Net_u_init_u : BindP (defArgs (memS (top 54) 1)) ["self", "text"] := fun _ _ _ _ _ _ _ _ _ _ us hl => match us, hl with | [_, _], _ => rfl
theorem bk1_Net_u_init_u : BindK (defArgs (memS (top 54) 1)) ["self", "text"] 1 ["text"] [0, 1] := fun _ _ _ _ _ _ _ _ _ _ us ws h1 h2 => match us, ws, h1, h2 with | [_], [_], _, _ => rfl
def d__law_frac_text : DefA := ⟨atG "_law_frac_text", "_law_frac_text", "_law_frac_text", defArgs (top 77), defBody (top 77), defScope (top 77)⟩
theorem sc__law_frac_text : FnScope N__law_frac_text ["one"] (defScope (top 77)) := ⟨rfl, rfl, rfl, by decide +kernel, rfl, by decide +kernel, by decide +kernel⟩
theorem bp__law_frac_text : BindP (defArgs (top 77)) ["one"] := fun _ _ _ _ _ _ _ _ _ _ us hl => match us, hl with | [_], _ => rfl
def d__law_net_text : DefA := ⟨atG "_law_net_text", "_law_net_text", "_law_net_text", defArgs (top 81), defBody (top 81), defScope (top 81)⟩
theorem sc__law_net_text : FnScope N__law_net_text ["own"] (defScope (top 81)) := ⟨rfl, rfl, rfl, by decide +kernel, rfl, by decide +kernel, by decide +kernel⟩
theorem bp__law_net_text : BindP (defArgs (top 81)) ["own"] := fun _ _ _ _ _ _ _ _ _ _ us hl => match us, hl with | [_], _ => rfl
def d__law_pulls_drawn : DefA := ⟨atG "_law_pulls_drawn", "_law_pulls_drawn", "_law_pulls_drawn", defArgs (top 94), defBody (top 94), defScope (top 94)⟩
theorem sc__law_pulls_drawn : FnScope N__law_pulls_drawn ["pot", "own"] (defScope (top 94)) := ⟨rfl, rfl, rfl, by decide +kernel, rfl, by decide +kernel, by decide +kernel⟩
theorem bp__law_pulls_drawn : BindP (defArgs (top 94)) ["pot", "own"] := fun _ _ _ _ _ _ _ _ _ _ us hl => match us, hl with | [_, _], _ => rfl
def d_is_tuple : DefA := ⟨atG "is_tuple", "is_tuple", "is_tuple", defArgs (top 28), defBody (top 28), defScope (top 28)⟩
theorem sc_is_tuple : FnScope N_is_tuple ["value", "low", "high"] (defScope (top 28)) := ⟨rfl, rfl, rfl, by decide +kernel, rfl, by decide +kernel, by decide +kernel⟩
theorem bp_is_tuple : BindP (defArgs (top 28)) ["value", "low", "high"] := fun _ _ _ _ _ _ _ _ _ _ us hl => match us, hl with | [_, _, _], _ => rfl
def d_Net_cords : DefA := ⟨atP "Net" "cords", "cords", "Net.cords", defArgs (memS (top 54) 8), defBody (memS (top 54) 8), defScope (memS (top 54) 8)⟩
theorem sc_Net_cords : FnScope N_Net_cords ["self"] (defScope (memS (top 54) 8)) := ⟨rfl, rfl, rfl, by decide +kernel, rfl, by decide +kernel, by decide +kernel⟩
theorem bp_Net_cords : BindP (defArgs (memS (top 54) 8)) ["self"] := fun _ _ _ _ _ _ _ _ _ _ us hl => match us, hl with | [_], _ => rfl
def d_is_rate : DefA := ⟨atG "is_rate", "is_rate", "is_rate", defArgs (top 17), defBody (top 17), defScope (top 17)⟩
theorem sc_is_rate : FnScope N_is_rate ["value"] (defScope (top 17)) := ⟨rfl, rfl, rfl, by decide +kernel, rfl, by decide +kernel, by decide +kernel⟩
theorem bp_is_rate : BindP (defArgs (top 17)) ["value"] := fun _ _ _ _ _ _ _ _ _ _ us hl => match us, hl with | [_], _ => rfl
def d_are_pulls : DefA := ⟨atG "are_pulls", "are_pulls", "are_pulls", defArgs (top 32), defBody (top 32), defScope (top 32)⟩
theorem sc_are_pulls : FnScope N_are_pulls ["net", "value"] (defScope (top 32)) := ⟨rfl, rfl, rfl, by decide +kernel, rfl, by decide +kernel, by decide +kernel⟩
theorem bp_are_pulls : BindP (defArgs (top 32)) ["net", "value"] := fun _ _ _ _ _ _ _ _ _ _ us hl => match us, hl with | [_, _], _ => rfl
def d_check_pulls : DefA := ⟨atG "check_pulls", "check_pulls", "check_pulls", defArgs (top 61), defBody (top 61), defScope (top 61)⟩
theorem sc_check_pulls : FnScope N_check_pulls ["net", "pulls"] (defScope (top 61)) := ⟨rfl, rfl, rfl, by decide +kernel, rfl, by decide +kernel, by decide +kernel⟩
theorem bp_check_pulls : BindP (defArgs (top 61)) ["net", "pulls"] := fun _ _ _ _ _ _ _ _ _ _ us hl => match us, hl with | [_, _], _ => rfl
def d_Net_rings : DefA := ⟨atP "Net" "rings", "rings", "Net.rings", defArgs (memS (top 54) 7), defBody (memS (top 54) 7), defScope (memS (top 54) 7)⟩
theorem sc_Net_rings : FnScope N_Net_rings ["self"] (defScope (memS (top 54) 7)) := ⟨rfl, rfl, rfl, by decide +kernel, rfl, by decide +kernel, by decide +kernel⟩
theorem bp_Net_rings : BindP (defArgs (memS (top 54) 7)) ["self"] := fun _ _ _ _ _ _ _ _ _ _ us hl => match us, hl with | [_], _ => rfl
def d_Net_coords : DefA := ⟨atP "Net" "coords", "coords", "Net.coords", defArgs (memS (top 54) 5), defBody (memS (top 54) 5), defScope (memS (top 54) 5)⟩
theorem sc_Net_coords : FnScope N_Net_coords ["self"] (defScope (memS (top 54) 5)) := ⟨rfl, rfl, rfl, by decide +kernel, rfl, by decide +kernel, by decide +kernel⟩
theorem bp_Net_coords : BindP (defArgs (memS (top 54) 5)) ["self"] := fun _ _ _ _ _ _ _ _ _ _ us hl => match us, hl with | [_], _ => rfl
def d_noughts_of : DefA := ⟨atG "noughts_of", "noughts_of", "noughts_of", defArgs (top 63), defBody (top 63), defScope (top 63)⟩
theorem sc_noughts_of : FnScope N_noughts_of ["net"] (defScope (top 63)) := ⟨rfl, rfl, rfl, by decide +kernel, rfl, by decide +kernel, by decide +kernel⟩
theorem bp_noughts_of : BindP (defArgs (top 63)) ["net"] := fun _ _ _ _ _ _ _ _ _ _ us hl => match us, hl with | [_], _ => rfl
def d_is_string : DefA := ⟨atG "is_string", "is_string", "is_string", defArgs (top 29), defBody (top 29), defScope (top 29)⟩
theorem sc_is_string : FnScope N_is_string ["value", "some"] (defScope (top 29)) := ⟨rfl, rfl, rfl, by decide +kernel, rfl, by decide +kernel, by decide +kernel⟩
theorem bp_is_string : BindP (defArgs (top 29)) ["value", "some"] := fun _ _ _ _ _ _ _ _ _ _ us hl => match us, hl with | [_, _], _ => rfl
def d_Net_pegs : DefA := ⟨atP "Net" "pegs", "pegs", "Net.pegs", defArgs (memS (top 54) 6), defBody (memS (top 54) 6), defScope (memS (top 54) 6)⟩
theorem sc_Net_pegs : FnScope N_Net_pegs ["self"] (defScope (memS (top 54) 6)) := ⟨rfl, rfl, rfl, by decide +kernel, rfl, by decide +kernel, by decide +kernel⟩
theorem bp_Net_pegs : BindP (defArgs (memS (top 54) 6)) ["self"] := fun _ _ _ _ _ _ _ _ _ _ us hl => match us, hl with | [_], _ => rfl
def d_check_name : DefA := ⟨atG "check_name", "check_name", "check_name", defArgs (top 55), defBody (top 55), defScope (top 55)⟩
theorem sc_check_name : FnScope N_check_name ["net", "name"] (defScope (top 55)) := ⟨rfl, rfl, rfl, by decide +kernel, rfl, by decide +kernel, by decide +kernel⟩
theorem bp_check_name : BindP (defArgs (top 55)) ["net", "name"] := fun _ _ _ _ _ _ _ _ _ _ us hl => match us, hl with | [_, _], _ => rfl
def d_cords_at : DefA := ⟨atG "cords_at", "cords_at", "cords_at", defArgs (top 58), defBody (top 58), defScope (top 58)⟩
theorem sc_cords_at : FnScope N_cords_at ["net", "name"] (defScope (top 58)) := ⟨rfl, rfl, rfl, by decide +kernel, rfl, by decide +kernel, by decide +kernel⟩
theorem bp_cords_at : BindP (defArgs (top 58)) ["net", "name"] := fun _ _ _ _ _ _ _ _ _ _ us hl => match us, hl with | [_, _], _ => rfl
def d_ratio : DefA := ⟨atG "ratio", "ratio", "ratio", defArgs (top 9), defBody (top 9), defScope (top 9)⟩
theorem sc_ratio : FnScope N_ratio ["top", "bottom"] (defScope (top 9)) := ⟨rfl, rfl, rfl, by decide +kernel, rfl, by decide +kernel, by decide +kernel⟩
theorem bp_ratio : BindP (defArgs (top 9)) ["top", "bottom"] := fun _ _ _ _ _ _ _ _ _ _ us hl => match us, hl with | [_, _], _ => rfl
def d_plus : DefA := ⟨atG "plus", "plus", "plus", defArgs (top 10), defBody (top 10), defScope (top 10)⟩
theorem sc_plus : FnScope N_plus ["one", "other"] (defScope (top 10)) := ⟨rfl, rfl, rfl, by decide +kernel, rfl, by decide +kernel, by decide +kernel⟩
theorem bp_plus : BindP (defArgs (top 10)) ["one", "other"] := fun _ _ _ _ _ _ _ _ _ _ us hl => match us, hl with | [_, _], _ => rfl
def d_row_plus : DefA := ⟨atG "row_plus", "row_plus", "row_plus", defArgs (top 13), defBody (top 13), defScope (top 13)⟩
theorem sc_row_plus : FnScope N_row_plus ["one", "other"] (defScope (top 13)) := ⟨rfl, rfl, rfl, by decide +kernel, rfl, by decide +kernel, by decide +kernel⟩
theorem bp_row_plus : BindP (defArgs (top 13)) ["one", "other"] := fun _ _ _ _ _ _ _ _ _ _ us hl => match us, hl with | [_, _], _ => rfl
def d_times : DefA := ⟨atG "times", "times", "times", defArgs (top 12), defBody (top 12), defScope (top 12)⟩
theorem sc_times : FnScope N_times ["one", "other"] (defScope (top 12)) := ⟨rfl, rfl, rfl, by decide +kernel, rfl, by decide +kernel, by decide +kernel⟩
theorem bp_times : BindP (defArgs (top 12)) ["one", "other"] := fun _ _ _ _ _ _ _ _ _ _ us hl => match us, hl with | [_, _], _ => rfl
def d_row_times : DefA := ⟨atG "row_times", "row_times", "row_times", defArgs (top 15), defBody (top 15), defScope (top 15)⟩
theorem sc_row_times : FnScope N_row_times ["row", "by"] (defScope (top 15)) := ⟨rfl, rfl, rfl, by decide +kernel, rfl, by decide +kernel, by decide +kernel⟩
theorem bp_row_times : BindP (defArgs (top 15)) ["row", "by"] := fun _ _ _ _ _ _ _ _ _ _ us hl => match us, hl with | [_, _], _ => rfl
def d_less : DefA := ⟨atG "less", "less", "less", defArgs (top 11), defBody (top 11), defScope (top 11)⟩
theorem sc_less : FnScope N_less ["one", "other"] (defScope (top 11)) := ⟨rfl, rfl, rfl, by decide +kernel, rfl, by decide +kernel, by decide +kernel⟩
theorem bp_less : BindP (defArgs (top 11)) ["one", "other"] := fun _ _ _ _ _ _ _ _ _ _ us hl => match us, hl with | [_, _], _ => rfl
def d_row_less : DefA := ⟨atG "row_less", "row_less", "row_less", defArgs (top 14), defBody (top 14), defScope (top 14)⟩
theorem sc_row_less : FnScope N_row_less ["one", "other"] (defScope (top 14)) := ⟨rfl, rfl, rfl, by decide +kernel, rfl, by decide +kernel, by decide +kernel⟩
theorem bp_row_less : BindP (defArgs (top 14)) ["one", "other"] := fun _ _ _ _ _ _ _ _ _ _ us hl => match us, hl with | [_, _], _ => rfl
def d_way_of : DefA := ⟨atG "way_of", "way_of", "way_of", defArgs (top 57), defBody (top 57), defScope (top 57)⟩
theorem sc_way_of : FnScope N_way_of ["net", "cord"] (defScope (top 57)) := ⟨rfl, rfl, rfl, by decide +kernel, rfl, by decide +kernel, by decide +kernel⟩
theorem bp_way_of : BindP (defArgs (top 57)) ["net", "cord"] := fun _ _ _ _ _ _ _ _ _ _ us hl => match us, hl with | [_, _], _ => rfl
def d_way_from : DefA := ⟨atG "way_from", "way_from", "way_from", defArgs (top 62), defBody (top 62), defScope (top 62)⟩
theorem sc_way_from : FnScope N_way_from ["net", "cord", "name"] (defScope (top 62)) := ⟨rfl, rfl, rfl, by decide +kernel, rfl, by decide +kernel, by decide +kernel⟩
theorem bp_way_from : BindP (defArgs (top 62)) ["net", "cord", "name"] := fun _ _ _ _ _ _ _ _ _ _ us hl => match us, hl with | [_, _, _], _ => rfl
def d_left_at : DefA := ⟨atG "left_at", "left_at", "left_at", defArgs (top 64), defBody (top 64), defScope (top 64)⟩
theorem sc_left_at : FnScope N_left_at ["net", "pulls", "ring"] (defScope (top 64)) := ⟨rfl, rfl, rfl, by decide +kernel, rfl, by decide +kernel, by decide +kernel⟩
theorem bp_left_at : BindP (defArgs (top 64)) ["net", "pulls", "ring"] := fun _ _ _ _ _ _ _ _ _ _ us hl => match us, hl with | [_, _, _], _ => rfl
def d_weight_of : DefA := ⟨atG "weight_of", "weight_of", "weight_of", defArgs (top 56), defBody (top 56), defScope (top 56)⟩
theorem sc_weight_of : FnScope N_weight_of ["net", "name"] (defScope (top 56)) := ⟨rfl, rfl, rfl, by decide +kernel, rfl, by decide +kernel, by decide +kernel⟩
theorem bp_weight_of : BindP (defArgs (top 56)) ["net", "name"] := fun _ _ _ _ _ _ _ _ _ _ us hl => match us, hl with | [_, _], _ => rfl
def d_left_over : DefA := ⟨atG "left_over", "left_over", "left_over", defArgs (top 65), defBody (top 65), defScope (top 65)⟩
theorem sc_left_over : FnScope N_left_over ["net", "pulls", "weighed"] (defScope (top 65)) := ⟨rfl, rfl, rfl, by decide +kernel, rfl, by decide +kernel, by decide +kernel⟩
theorem bp_left_over : BindP (defArgs (top 65)) ["net", "pulls", "weighed"] := fun _ _ _ _ _ _ _ _ _ _ us hl => match us, hl with | [_, _, _], _ => rfl
theorem bk_left_over_0_weighed_pulls_net : BindK (defArgs (top 65)) ["net", "pulls", "weighed"] 0 ["weighed", "pulls", "net"] [2, 1, 0] := fun _ _ _ _ _ _ _ _ _ _ us ws h1 h2 => match us, ws, h1, h2 with | [], [_, _, _], _, _ => rfl
def d__law_left : DefA := ⟨atG "_law_left", "_law_left", "_law_left", defArgs (top 95), defBody (top 95), defScope (top 95)⟩
theorem sc__law_left : FnScope N__law_left ["own", "pulls", "weighed"] (defScope (top 95)) := ⟨rfl, rfl, rfl, by decide +kernel, rfl, by decide +kernel, by decide +kernel⟩
theorem bp__law_left : BindP (defArgs (top 95)) ["own", "pulls", "weighed"] := fun _ _ _ _ _ _ _ _ _ _ us hl => match us, hl with | [_, _, _], _ => rfl
def d__law_right : DefA := ⟨atG "_law_right", "_law_right", "_law_right", defArgs (top 96), defBody (top 96), defScope (top 96)⟩
theorem sc__law_right : FnScope N__law_right ["pot"] (defScope (top 96)) := ⟨rfl, rfl, rfl, by decide +kernel, rfl, by decide +kernel, by decide +kernel⟩
theorem bp__law_right : BindP (defArgs (top 96)) ["pot"] := fun _ _ _ _ _ _ _ _ _ _ us hl => match us, hl with | [_], _ => rfl
def d__law_pot : DefA := ⟨atG "_law_pot", "_law_pot", "_law_pot", defArgs (top 67), defBody (top 67), defScope (top 67)⟩
theorem sc__law_pot : FnScope N__law_pot ["script", "at"] (defScope (top 67)) := ⟨rfl, rfl, rfl, by decide +kernel, rfl, by decide +kernel, by decide +kernel⟩
theorem bp__law_pot : BindP (defArgs (top 67)) ["script", "at"] := fun _ _ _ _ _ _ _ _ _ _ us hl => match us, hl with | [_, _], _ => rfl
def d_law : DefA := ⟨atG "law", "law", "law", defArgs (top 97), defBody (top 97), defScope (top 97)⟩
theorem sc_law : FnScope N_law ["script"] (defScope (top 97)) := ⟨rfl, rfl, rfl, by decide +kernel, rfl, by decide +kernel, by decide +kernel⟩
theorem bp_law : BindP (defArgs (top 97)) ["script"] := fun _ _ _ _ _ _ _ _ _ _ us hl => match us, hl with | [_], _ => rfl
/-! ### facts -/
def cks0 : List Ck := [ckF "abs", ckF "all", ckF "any", ckF "bool", ckF "enumerate", ckF "int", ckF "isinstance", ckF "len", ckF "list", ckF "max", ckF "min", ckF "range", ckF "repr", ckF "str", ckF "sum", ckF "tuple", ckF "zip", ckC "BLANK" (.str " "), ckC "CORD" (.str "cord"), ckC "FEED" (.str "\n")]
def cks1 : List Ck := [ckC "FIGURES" (.str "0123456789"), ckC "MINUS" (.str "-"), ckT "MINUS_ONE" [(.int (-1)), (.int 1)], ckC "MOST_BOTTOM" (.int 60), ckC "MOST_COORDS" (.int 3), ckC "MOST_CORDS" (.int 20), ckC "MOST_FIGURES" (.int 4000), ckC "MOST_PEGS" (.int 16), ckC "MOST_RINGS" (.int 8), ckC "MOST_SIGNS" (.int 6), ckC "MOST_TOP" (.int 1000), ckC "NET" (.str "net"), ckT "NOUGHT" [(.int 0), (.int 1)], ckC "OVER" (.str "/"), ckC "PAIR_nets" (.int 2), ckC "PAIR_ratios" (.int 2), ckC "PEG" (.str "peg"), ckC "RING" (.str "ring"), ckC "SIGNS" (.str "abcdefghijklmnopqrstuvwxyz"), ckG "_law_cells"]
def cks2 : List Ck := [ckG "_law_take", ckG "_law_some", ckG "_law_of", ckG "_law_net_fraction", ckG "_law_net_spot", ckG "_law_net_names", ckG "_law_frac_common", ckG "_law_frac", ckG "_law_frac_less", ckG "_law_row_less", ckG "_law_net_place", ckG "_law_frac_plus", ckG "_law_row_plus", ckG "_law_frac_times", ckG "_law_row_times", ckG "_law_net_rings", ckG "_law_net_tied", ckG "_law_net_ring_drawn", ckG "_law_net_weight", ckG "_law_net_way"]
def cks3 : List Ck := [ckG "_law_net_left", ckG "_law_net_weighed", ckG "_law_net_drawn", ckG "lines_of", ckG "whole_in", ckG "is_whole", ckG "is_integer", ckG "coords_in", ckG "common", ckG "is_ratio", ckG "ratio_in", ckG "is_number", ckG "numbers_in", ckG "is_name", ckG "drafts_of", ckG "_law_frac_text", ckG "_law_net_text", ckG "_law_pulls_drawn", ckG "is_tuple", ckG "is_rate"]
def cks4 : List Ck := [ckG "are_pulls", ckG "check_pulls", ckG "noughts_of", ckG "is_string", ckG "check_name", ckG "cords_at", ckG "ratio", ckG "plus", ckG "row_plus", ckG "times", ckG "row_times", ckG "less", ckG "row_less", ckG "way_of", ckG "way_from", ckG "left_at", ckG "weight_of", ckG "left_over", ckG "_law_left", ckG "_law_right"]
def cks5 : List Ck := [ckG "_law_pot", ckG "law", ckG "Drafts", ckS "Drafts", ckG "Net", ckS "Net", ckSl "Drafts" "own_coords" 0, ckSl "Drafts" "own_cords" 1, ckSl "Drafts" "own_pegs" 2, ckSl "Drafts" "own_rings" 3, ckSl "Net" "own_cords" 0, ckSl "Net" "own_drafts" 1, ckSl "Net" "own_kept" 2, ckSl "Net" "own_text" 3, ckN "Drafts", ckN "Net", ckM "Drafts" "__init__", ckM "Drafts" "is_new", ckM "Drafts" "put_peg", ckM "Drafts" "put_ring"]
def cks6 : List Ck := [ckM "Drafts" "place", ckM "Drafts" "put_cord", ckM "Drafts" "put", ckM "Net" "__init__", ckP "Net" "cords", ckP "Net" "rings", ckP "Net" "coords", ckP "Net" "pegs", ckL]
def cks : List Ck := cks0 ++ cks1 ++ cks2 ++ cks3 ++ cks4 ++ cks5 ++ cks6
def dfs0 : List DefA := [d__law_cells, d__law_take, d__law_some, d__law_of, d__law_net_fraction, d__law_net_spot, d__law_net_names, d__law_frac_common, d__law_frac, d__law_frac_less, d__law_row_less, d__law_net_place, d__law_frac_plus, d__law_row_plus, d__law_frac_times, d__law_row_times, d__law_net_rings, d__law_net_tied, d__law_net_ring_drawn, d__law_net_weight]
def dfs1 : List DefA := [d__law_net_way, d__law_net_left, d__law_net_weighed, d__law_net_drawn, d_lines_of, d_whole_in, d_is_whole, d_is_integer, d_coords_in, d_Drafts_u_init_u, d_common, d_is_ratio, d_ratio_in, d_is_number, d_numbers_in, d_is_name, d_Drafts_is_new, d_Drafts_put_peg, d_Drafts_put_ring, d_Drafts_place]
def dfs2 : List DefA := [d_Drafts_put_cord, d_Drafts_put, d_drafts_of, d_Net_u_init_u, d__law_frac_text, d__law_net_text, d__law_pulls_drawn, d_is_tuple, d_Net_cords, d_is_rate, d_are_pulls, d_check_pulls, d_Net_rings, d_Net_coords, d_noughts_of, d_is_string, d_Net_pegs, d_check_name, d_cords_at, d_ratio]
def dfs3 : List DefA := [d_plus, d_row_plus, d_times, d_row_times, d_less, d_row_less, d_way_of, d_way_from, d_left_at, d_weight_of, d_left_over, d__law_left, d__law_right, d__law_pot, d_law]
def dfs : List DefA := dfs0 ++ dfs1 ++ dfs2 ++ dfs3
end K14w
/-! The head of the law, printed by gen.py. -/
namespace K14w
open PySem PySem.Spec PyProof.Rows L2 AM K14
abbrev qv : Program := PySem.W.view R.prog [97]
def loose0 : List Str := ["OVER", "FIGURES", "MINUS", "PAIR_ratios", "NOUGHT", "MOST_FIGURES", "is_whole", "common", "ratio", "plus", "less", "times", "row_plus", "row_less", "row_times", "is_ratio", "is_rate", "whole_in", "ratio_in", "FEED", "BLANK", "SIGNS", "MOST_SIGNS", "MOST_TOP", "MOST_BOTTOM", "is_integer", "is_tuple", "is_string", "is_name", "is_number"]
def loose1 : List Str := ["are_pulls", "lines_of", "RestError", "BadNet", "NoName", "BadPulls", "BadWeighed", "NET", "PEG", "RING", "CORD", "PAIR_nets", "MOST_COORDS", "MOST_PEGS", "MOST_RINGS", "MOST_CORDS", "coords_in", "numbers_in", "Drafts", "drafts_of", "Net", "check_name", "weight_of", "way_of", "cords_at", "MINUS_ONE", "check_pulls", "way_from", "noughts_of", "left_at"]
def loose2 : List Str := ["left_over", "_law_pot", "_law_take", "_law_of", "_law_some", "_law_cells", "_law_frac_common", "_law_frac", "_law_frac_plus", "_law_frac_less", "_law_frac_times", "_law_frac_text", "_law_row_plus", "_law_row_less", "_law_row_times", "_law_net_text", "_law_net_names", "_law_net_rings", "_law_net_place", "_law_net_weight", "_law_net_way", "_law_net_left", "_law_net_fraction", "_law_net_spot", "_law_net_tied", "_law_net_ring_drawn", "_law_net_weighed", "_law_net_drawn", "_law_pulls_drawn", "_law_left"]
def loose3 : List Str := ["_law_right"]
def loose : List Str := loose0 ++ loose1 ++ loose2 ++ loose3
abbrev hkA : PySem.W.Hook := hookE 5 cks dfs
def ob (s : PySem.W.SharedT) : He.AlD := obsEG 5 cks dfs (HandSHeadRun.getT s)
theorem ob_eq (s : PySem.W.SharedT) : ob s = hkA.obs s.abs := obsEG_eq (HandSHeadRun.getT_eq s)
noncomputable abbrev went (w : World) (os : OsState) : Option PySem.W.SharedT := HandSHeadRun.endF (HandSHeadRun.stepQ (HandSHeadRun.denQ HandSHeadRun.tabQ) R.prog w) 40000 R.prog w os
theorem runL (w : World) (os : OsState) : ((went w os).map fun s => HandSHeadRun.looksF R.prog (PySem.W.boot_heap w.params) s.abs) = some true := by
  kernel_rfl
theorem runS (w : World) (os : OsState) : ((went w os).map fun s => HandSHeadRun.seenQ qv loose (importedModules R.prog.main.body) (fun s => PySem.W.xlAt qv [] s && PySem.W.recOk R.toRowW.records s) s.abs) = some (PySem.W.openGood qv loose) := by
  kernel_rfl
theorem runO (w : World) (os : OsState) : ((went w os).map ob) = some (hkA.val w) := by
  kernel_rfl
theorem run (w : World) : HandSHeadRun.RunEq R qv hkA ob 40000 loose w := by
  intro os
  have l := runL w os
  have s := runS w os
  have o := runO w os
  show ((went w os).map fun s => (HandSHeadRun.looksF R.prog (PySem.W.boot_heap w.params) s.abs, HandSHeadRun.seenQ qv loose (importedModules R.prog.main.body) (fun s => PySem.W.xlAt qv [] s && PySem.W.recOk R.toRowW.records s) s.abs, ob s)) = some (true, PySem.W.openGood qv loose, hkA.val w)
  revert l s o
  generalize went w os = e
  intro l s o
  cases e with
  | none => cases l
  | some x =>
    have l := Option.some.inj l
    have s := Option.some.inj s
    have o := Option.some.inj o
    exact congrArg some (Prod.ext l (Prod.ext s o))
end K14w
/-! The walk's facts, printed by gen.py. -/
namespace K14w
open PySem PySem.Spec PyProof.Rows L2 AM K14
section
variable {w : World} {K : PySem.W.Frag} {mg : Str → Option Value} {base h : Heap}
theorem f_abs (c : SaysA cks dfs K) (Y : K.In h) (G : h.Ns mainGlobals mg) : mg "abs" = none := ckF_ok Y G (c.ck 0 (f := ckF "abs"))
theorem f_all (c : SaysA cks dfs K) (Y : K.In h) (G : h.Ns mainGlobals mg) : mg "all" = none := ckF_ok Y G (c.ck 1 (f := ckF "all"))
theorem f_any (c : SaysA cks dfs K) (Y : K.In h) (G : h.Ns mainGlobals mg) : mg "any" = none := ckF_ok Y G (c.ck 2 (f := ckF "any"))
theorem f_bool (c : SaysA cks dfs K) (Y : K.In h) (G : h.Ns mainGlobals mg) : mg "bool" = none := ckF_ok Y G (c.ck 3 (f := ckF "bool"))
theorem f_enumerate (c : SaysA cks dfs K) (Y : K.In h) (G : h.Ns mainGlobals mg) : mg "enumerate" = none := ckF_ok Y G (c.ck 4 (f := ckF "enumerate"))
theorem f_int (c : SaysA cks dfs K) (Y : K.In h) (G : h.Ns mainGlobals mg) : mg "int" = none := ckF_ok Y G (c.ck 5 (f := ckF "int"))
theorem f_isinstance (c : SaysA cks dfs K) (Y : K.In h) (G : h.Ns mainGlobals mg) : mg "isinstance" = none := ckF_ok Y G (c.ck 6 (f := ckF "isinstance"))
theorem f_len (c : SaysA cks dfs K) (Y : K.In h) (G : h.Ns mainGlobals mg) : mg "len" = none := ckF_ok Y G (c.ck 7 (f := ckF "len"))
theorem f_list (c : SaysA cks dfs K) (Y : K.In h) (G : h.Ns mainGlobals mg) : mg "list" = none := ckF_ok Y G (c.ck 8 (f := ckF "list"))
theorem f_max (c : SaysA cks dfs K) (Y : K.In h) (G : h.Ns mainGlobals mg) : mg "max" = none := ckF_ok Y G (c.ck 9 (f := ckF "max"))
theorem f_min (c : SaysA cks dfs K) (Y : K.In h) (G : h.Ns mainGlobals mg) : mg "min" = none := ckF_ok Y G (c.ck 10 (f := ckF "min"))
theorem f_range (c : SaysA cks dfs K) (Y : K.In h) (G : h.Ns mainGlobals mg) : mg "range" = none := ckF_ok Y G (c.ck 11 (f := ckF "range"))
theorem f_repr (c : SaysA cks dfs K) (Y : K.In h) (G : h.Ns mainGlobals mg) : mg "repr" = none := ckF_ok Y G (c.ck 12 (f := ckF "repr"))
theorem f_str (c : SaysA cks dfs K) (Y : K.In h) (G : h.Ns mainGlobals mg) : mg "str" = none := ckF_ok Y G (c.ck 13 (f := ckF "str"))
theorem f_sum (c : SaysA cks dfs K) (Y : K.In h) (G : h.Ns mainGlobals mg) : mg "sum" = none := ckF_ok Y G (c.ck 14 (f := ckF "sum"))
theorem f_tuple (c : SaysA cks dfs K) (Y : K.In h) (G : h.Ns mainGlobals mg) : mg "tuple" = none := ckF_ok Y G (c.ck 15 (f := ckF "tuple"))
theorem f_zip (c : SaysA cks dfs K) (Y : K.In h) (G : h.Ns mainGlobals mg) : mg "zip" = none := ckF_ok Y G (c.ck 16 (f := ckF "zip"))
theorem g_BLANK (c : SaysA cks dfs K) (Y : K.In h) (G : h.Ns mainGlobals mg) : Glo K mg "BLANK" (.str " ") := ckC_ok Y G (c.ck 17 (f := ckC "BLANK" (.str " ")))
theorem g_CORD (c : SaysA cks dfs K) (Y : K.In h) (G : h.Ns mainGlobals mg) : Glo K mg "CORD" (.str "cord") := ckC_ok Y G (c.ck 18 (f := ckC "CORD" (.str "cord")))
theorem g_FEED (c : SaysA cks dfs K) (Y : K.In h) (G : h.Ns mainGlobals mg) : Glo K mg "FEED" (.str "\n") := ckC_ok Y G (c.ck 19 (f := ckC "FEED" (.str "\n")))
theorem g_FIGURES (c : SaysA cks dfs K) (Y : K.In h) (G : h.Ns mainGlobals mg) : Glo K mg "FIGURES" (.str "0123456789") := ckC_ok Y G (c.ck 20 (f := ckC "FIGURES" (.str "0123456789")))
theorem g_MINUS (c : SaysA cks dfs K) (Y : K.In h) (G : h.Ns mainGlobals mg) : Glo K mg "MINUS" (.str "-") := ckC_ok Y G (c.ck 21 (f := ckC "MINUS" (.str "-")))
theorem g_MINUS_ONE (c : SaysA cks dfs K) (Y : K.In h) (G : h.Ns mainGlobals mg) : Glo K mg "MINUS_ONE" (.tup [(.int (-1)), (.int 1)]) := ckT_ok Y G (c.ck 22 (f := ckT "MINUS_ONE" [(.int (-1)), (.int 1)]))
theorem g_MOST_BOTTOM (c : SaysA cks dfs K) (Y : K.In h) (G : h.Ns mainGlobals mg) : Glo K mg "MOST_BOTTOM" (.int 60) := ckC_ok Y G (c.ck 23 (f := ckC "MOST_BOTTOM" (.int 60)))
theorem g_MOST_COORDS (c : SaysA cks dfs K) (Y : K.In h) (G : h.Ns mainGlobals mg) : Glo K mg "MOST_COORDS" (.int 3) := ckC_ok Y G (c.ck 24 (f := ckC "MOST_COORDS" (.int 3)))
theorem g_MOST_CORDS (c : SaysA cks dfs K) (Y : K.In h) (G : h.Ns mainGlobals mg) : Glo K mg "MOST_CORDS" (.int 20) := ckC_ok Y G (c.ck 25 (f := ckC "MOST_CORDS" (.int 20)))
theorem g_MOST_FIGURES (c : SaysA cks dfs K) (Y : K.In h) (G : h.Ns mainGlobals mg) : Glo K mg "MOST_FIGURES" (.int 4000) := ckC_ok Y G (c.ck 26 (f := ckC "MOST_FIGURES" (.int 4000)))
theorem g_MOST_PEGS (c : SaysA cks dfs K) (Y : K.In h) (G : h.Ns mainGlobals mg) : Glo K mg "MOST_PEGS" (.int 16) := ckC_ok Y G (c.ck 27 (f := ckC "MOST_PEGS" (.int 16)))
theorem g_MOST_RINGS (c : SaysA cks dfs K) (Y : K.In h) (G : h.Ns mainGlobals mg) : Glo K mg "MOST_RINGS" (.int 8) := ckC_ok Y G (c.ck 28 (f := ckC "MOST_RINGS" (.int 8)))
theorem g_MOST_SIGNS (c : SaysA cks dfs K) (Y : K.In h) (G : h.Ns mainGlobals mg) : Glo K mg "MOST_SIGNS" (.int 6) := ckC_ok Y G (c.ck 29 (f := ckC "MOST_SIGNS" (.int 6)))
theorem g_MOST_TOP (c : SaysA cks dfs K) (Y : K.In h) (G : h.Ns mainGlobals mg) : Glo K mg "MOST_TOP" (.int 1000) := ckC_ok Y G (c.ck 30 (f := ckC "MOST_TOP" (.int 1000)))
theorem g_NET (c : SaysA cks dfs K) (Y : K.In h) (G : h.Ns mainGlobals mg) : Glo K mg "NET" (.str "net") := ckC_ok Y G (c.ck 31 (f := ckC "NET" (.str "net")))
theorem g_NOUGHT (c : SaysA cks dfs K) (Y : K.In h) (G : h.Ns mainGlobals mg) : Glo K mg "NOUGHT" (.tup [(.int 0), (.int 1)]) := ckT_ok Y G (c.ck 32 (f := ckT "NOUGHT" [(.int 0), (.int 1)]))
theorem g_OVER (c : SaysA cks dfs K) (Y : K.In h) (G : h.Ns mainGlobals mg) : Glo K mg "OVER" (.str "/") := ckC_ok Y G (c.ck 33 (f := ckC "OVER" (.str "/")))
theorem g_PAIR_nets (c : SaysA cks dfs K) (Y : K.In h) (G : h.Ns mainGlobals mg) : Glo K mg "PAIR_nets" (.int 2) := ckC_ok Y G (c.ck 34 (f := ckC "PAIR_nets" (.int 2)))
theorem g_PAIR_ratios (c : SaysA cks dfs K) (Y : K.In h) (G : h.Ns mainGlobals mg) : Glo K mg "PAIR_ratios" (.int 2) := ckC_ok Y G (c.ck 35 (f := ckC "PAIR_ratios" (.int 2)))
theorem g_PEG (c : SaysA cks dfs K) (Y : K.In h) (G : h.Ns mainGlobals mg) : Glo K mg "PEG" (.str "peg") := ckC_ok Y G (c.ck 36 (f := ckC "PEG" (.str "peg")))
theorem g_RING (c : SaysA cks dfs K) (Y : K.In h) (G : h.Ns mainGlobals mg) : Glo K mg "RING" (.str "ring") := ckC_ok Y G (c.ck 37 (f := ckC "RING" (.str "ring")))
theorem g_SIGNS (c : SaysA cks dfs K) (Y : K.In h) (G : h.Ns mainGlobals mg) : Glo K mg "SIGNS" (.str "abcdefghijklmnopqrstuvwxyz") := ckC_ok Y G (c.ck 38 (f := ckC "SIGNS" (.str "abcdefghijklmnopqrstuvwxyz")))
theorem s_Drafts_own_coords (c : SaysA cks dfs K) : HasS K "Drafts" "own_coords" 0 := ckSl_ok (c.ck 103 (f := ckS "Drafts")) (c.ck 106 (f := ckSl "Drafts" "own_coords" 0))
theorem s_Drafts_own_cords (c : SaysA cks dfs K) : HasS K "Drafts" "own_cords" 1 := ckSl_ok (c.ck 103 (f := ckS "Drafts")) (c.ck 107 (f := ckSl "Drafts" "own_cords" 1))
theorem s_Drafts_own_pegs (c : SaysA cks dfs K) : HasS K "Drafts" "own_pegs" 2 := ckSl_ok (c.ck 103 (f := ckS "Drafts")) (c.ck 108 (f := ckSl "Drafts" "own_pegs" 2))
theorem s_Drafts_own_rings (c : SaysA cks dfs K) : HasS K "Drafts" "own_rings" 3 := ckSl_ok (c.ck 103 (f := ckS "Drafts")) (c.ck 109 (f := ckSl "Drafts" "own_rings" 3))
theorem s_Net_own_cords (c : SaysA cks dfs K) : HasS K "Net" "own_cords" 0 := ckSl_ok (c.ck 105 (f := ckS "Net")) (c.ck 110 (f := ckSl "Net" "own_cords" 0))
theorem s_Net_own_drafts (c : SaysA cks dfs K) : HasS K "Net" "own_drafts" 1 := ckSl_ok (c.ck 105 (f := ckS "Net")) (c.ck 111 (f := ckSl "Net" "own_drafts" 1))
theorem s_Net_own_kept (c : SaysA cks dfs K) : HasS K "Net" "own_kept" 2 := ckSl_ok (c.ck 105 (f := ckS "Net")) (c.ck 112 (f := ckSl "Net" "own_kept" 2))
theorem s_Net_own_text (c : SaysA cks dfs K) : HasS K "Net" "own_text" 3 := ckSl_ok (c.ck 105 (f := ckS "Net")) (c.ck 113 (f := ckSl "Net" "own_text" 3))
theorem fd__law_cells (c : SaysA cks dfs K) : ∃ fd, FunD K "_law_cells" "_law_cells" (defArgs (top 71)) (defBody (top 71)) (defScope (top 71)) [] [] (atG "_law_cells" K) fd := c.df 0 (d := d__law_cells)
theorem wk__law_cells (c : SaysA cks dfs K) (Y : K.In h) (G : h.Ns mainGlobals mg) {fd : FuncData} (F : FunD K "_law_cells" "_law_cells" (defArgs (top 71)) (defBody (top 71)) (defScope (top 71)) [] [] (atG "_law_cells" K) fd) : FnG R.prog w K mg base 1 (atG "_law_cells" K) fd ["script", "most"] (spOf K ["script", "most"].length m__law_cells) :=
  fnG_mk (k := 0) F sc__law_cells fun cdv A outer s H E hk tk po => by
  have nd := sc__law_cells.nd
  unfold b__law_cells
  exact (ws_one (w_ret (w_listR false rfl (f_list c Y G) (f_range c Y G) (w_callB (call_max2 rfl) sn_max (f_max c Y G) rfl (wa_cons w_int (wa_cons (w_callB (call_min2 rfl) sn_min (f_min c Y G) rfl (wa_cons (w_var 1) (wa_cons (w_callB cr_len sn_len (f_len c Y G) rfl (wa_cons (w_var 0) wa_nil)) wa_nil))) wa_nil))))))
theorem has__law_cells (c : SaysA cks dfs K) (Y : K.In h) (G : h.Ns mainGlobals mg) : Has R.prog w K mg base "_law_cells" (defArgs (top 71)) ["script", "most"] 1 m__law_cells := by
  obtain ⟨fd, F⟩ := fd__law_cells c
  exact ⟨⟨_, fd, _, _, _, ckG_ok Y G (c.ck 39 (f := ckG "_law_cells")), wk__law_cells c Y G F, F⟩⟩
theorem fd__law_take (c : SaysA cks dfs K) : ∃ fd, FunD K "_law_take" "_law_take" (defArgs (top 68)) (defBody (top 68)) (defScope (top 68)) [] [] (atG "_law_take" K) fd := c.df 1 (d := d__law_take)
theorem wk__law_take (c : SaysA cks dfs K) (Y : K.In h) (G : h.Ns mainGlobals mg) {fd : FuncData} (F : FunD K "_law_take" "_law_take" (defArgs (top 68)) (defBody (top 68)) (defScope (top 68)) [] [] (atG "_law_take" K) fd) : FnG R.prog w K mg base 1 (atG "_law_take" K) fd ["pot", "upto"] (spOf K ["pot", "upto"].length m__law_take) :=
  fnG_mk (k := 0) F sc__law_take fun cdv A outer s H E hk tk po => by
  have nd := sc__law_take.nd
  unfold b__law_take
  exact (ws_cons (w_if (wt_cmp op_gt cs_int (w_ix hk (w_var 0) w_int) w_int) (ws_cons (w_asg (w_bin op_mod sn_mod (w_callTy cr_int sn_intc (f_int c Y G) rfl (wa_cons (w_ix hk (w_var 0) w_int) wa_nil)) (w_var 1)) (wg_name 2 nd))
    (ws_cons (w_asg (w_bin op_fdivW sn_div (w_ix hk (w_var 0) w_int) (w_var 1)) (wg_sub hk (w_var 0) w_int))
    (ws_one (w_ret (w_var 2))))) ws_nil)
    (ws_cons (w_asg (w_bin or_add (sn_add (b := false)) (w_ix hk (w_var 0) w_int) w_int) (wg_sub hk (w_var 0) w_int))
    (ws_cons (w_asg (w_ix hk (w_lst false (wa_cons w_int (wa_cons w_int (wa_cons w_int (wa_cons w_int (wa_cons w_int wa_nil)))))) (w_bin op_mod sn_mod (w_callTy cr_int sn_intc (f_int c Y G) rfl (wa_cons (w_ix hk (w_var 0) w_int) wa_nil)) w_int)) (wg_name 3 nd))
    (ws_cons (w_asg (w_bin op_mod sn_mod (w_callTy cr_int sn_intc (f_int c Y G) rfl (wa_cons (w_bin op_powW sn_pow (w_callTy cr_int sn_intc (f_int c Y G) rfl (wa_cons (w_bin or_add (sn_add (b := false)) (w_bin or_add (sn_add (b := false)) (w_ix hk (w_var 0) w_int) (w_bin or_mul sn_mul (w_bin or_mul sn_mul w_int (w_ix hk (w_var 0) w_int)) (w_ix hk (w_var 0) w_int))) w_int) wa_nil)) w_int) wa_nil)) (w_var 3)) (wg_name 4 nd))
    (ws_cons (w_asg (w_bin op_mod sn_mod (w_callTy cr_int sn_intc (f_int c Y G) rfl (wa_cons (w_bin or_mul sn_mul (w_var 4) (w_bin or_add (sn_add (b := false)) (w_bin op_mod sn_mod (w_callTy cr_int sn_intc (f_int c Y G) rfl (wa_cons (w_var 4) wa_nil)) w_int) (w_bin or_mul sn_mul w_int (w_ix hk (w_var 0) w_int)))) wa_nil)) w_int) (wg_name 4 nd))
    (ws_one (w_ret (w_bin op_mod sn_mod (w_callTy cr_int sn_intc (f_int c Y G) rfl (wa_cons (w_bin op_fdivW sn_div (w_var 4) w_int) wa_nil)) (w_var 1)))))))))
theorem has__law_take (c : SaysA cks dfs K) (Y : K.In h) (G : h.Ns mainGlobals mg) : Has R.prog w K mg base "_law_take" (defArgs (top 68)) ["pot", "upto"] 1 m__law_take := by
  obtain ⟨fd, F⟩ := fd__law_take c
  exact ⟨⟨_, fd, _, _, _, ckG_ok Y G (c.ck 40 (f := ckG "_law_take")), wk__law_take c Y G F, F⟩⟩
theorem fd__law_some (c : SaysA cks dfs K) : ∃ fd, FunD K "_law_some" "_law_some" (defArgs (top 70)) (defBody (top 70)) (defScope (top 70)) [] [] (atG "_law_some" K) fd := c.df 2 (d := d__law_some)
theorem wk__law_some (c : SaysA cks dfs K) (Y : K.In h) (G : h.Ns mainGlobals mg) {fd : FuncData} (F : FunD K "_law_some" "_law_some" (defArgs (top 70)) (defBody (top 70)) (defScope (top 70)) [] [] (atG "_law_some" K) fd) : FnG R.prog w K mg base 2 (atG "_law_some" K) fd ["pot", "pool", "many"] (spOf K ["pot", "pool", "many"].length m__law_some) :=
  fnG_mk (k := 1) F sc__law_some fun cdv A outer s H E hk tk po => by
  have nd := sc__law_some.nd
  unfold b__law_some
  exact (ws_cons (w_par rfl nd (wa_cons (w_callTy (cr_list rfl) (sn_list (b := true)) (f_list c Y G) rfl (wa_cons (w_var 1) wa_nil)) (wa_cons (w_lst true wa_nil) wa_nil)))
    (ws_cons (w_for po rfl (w_range1 (f_range c Y G) (wa_cons (w_var 2) wa_nil)) (wg_name 5 nd) (ws_one (w_expr (w_bm PySem.F.plainAttrs_list PySem.F.slot_list_append PySem.F.type_list_append mt_append sn_append (w_var 4) (wa_cons (w_bm PySem.F.plainAttrs_list PySem.F.slot_list_pop PySem.F.type_list_pop mt_popA sn_pop (w_var 3) (wa_cons (w_call (has__law_take c Y G) bp__law_take (hk.mono (by decide)) tk (wa_cons (w_var 0) (wa_cons (w_callB cr_len sn_len (f_len c Y G) rfl (wa_cons (w_var 3) wa_nil)) wa_nil))) wa_nil)) wa_nil)))))
    (ws_one (w_ret (w_var 4)))))
theorem has__law_some (c : SaysA cks dfs K) (Y : K.In h) (G : h.Ns mainGlobals mg) : Has R.prog w K mg base "_law_some" (defArgs (top 70)) ["pot", "pool", "many"] 2 m__law_some := by
  obtain ⟨fd, F⟩ := fd__law_some c
  exact ⟨⟨_, fd, _, _, _, ckG_ok Y G (c.ck 41 (f := ckG "_law_some")), wk__law_some c Y G F, F⟩⟩
theorem fd__law_of (c : SaysA cks dfs K) : ∃ fd, FunD K "_law_of" "_law_of" (defArgs (top 69)) (defBody (top 69)) (defScope (top 69)) [] [] (atG "_law_of" K) fd := c.df 3 (d := d__law_of)
theorem wk__law_of (c : SaysA cks dfs K) (Y : K.In h) (G : h.Ns mainGlobals mg) {fd : FuncData} (F : FunD K "_law_of" "_law_of" (defArgs (top 69)) (defBody (top 69)) (defScope (top 69)) [] [] (atG "_law_of" K) fd) : FnG R.prog w K mg base 2 (atG "_law_of" K) fd ["pot", "some"] (spOf K ["pot", "some"].length m__law_of) :=
  fnG_mk (k := 1) F sc__law_of fun cdv A outer s H E hk tk po => by
  have nd := sc__law_of.nd
  unfold b__law_of
  exact (ws_one (w_ret (w_ix hk (w_var 1) (w_call (has__law_take c Y G) bp__law_take (hk.mono (by decide)) tk (wa_cons (w_var 0) (wa_cons (w_callB cr_len sn_len (f_len c Y G) rfl (wa_cons (w_var 1) wa_nil)) wa_nil))))))
theorem has__law_of (c : SaysA cks dfs K) (Y : K.In h) (G : h.Ns mainGlobals mg) : Has R.prog w K mg base "_law_of" (defArgs (top 69)) ["pot", "some"] 2 m__law_of := by
  obtain ⟨fd, F⟩ := fd__law_of c
  exact ⟨⟨_, fd, _, _, _, ckG_ok Y G (c.ck 42 (f := ckG "_law_of")), wk__law_of c Y G F, F⟩⟩
theorem fd__law_net_fraction (c : SaysA cks dfs K) : ∃ fd, FunD K "_law_net_fraction" "_law_net_fraction" (defArgs (top 88)) (defBody (top 88)) (defScope (top 88)) [] [] (atG "_law_net_fraction" K) fd := c.df 4 (d := d__law_net_fraction)
theorem wk__law_net_fraction (c : SaysA cks dfs K) (Y : K.In h) (G : h.Ns mainGlobals mg) {fd : FuncData} (F : FunD K "_law_net_fraction" "_law_net_fraction" (defArgs (top 88)) (defBody (top 88)) (defScope (top 88)) [] [] (atG "_law_net_fraction" K) fd) : FnG R.prog w K mg base 3 (atG "_law_net_fraction" K) fd ["pot"] (spOf K ["pot"].length m__law_net_fraction) :=
  fnG_mk (k := 2) F sc__law_net_fraction fun cdv A outer s H E hk tk po => by
  have nd := sc__law_net_fraction.nd
  unfold b__law_net_fraction
  exact (ws_one (w_ret (w_call (has__law_of c Y G) bp__law_of (hk.mono (by decide)) tk (wa_cons (w_var 0) (wa_cons (w_lst false (wa_cons (w_tup (wa_cons w_int (wa_cons w_int wa_nil))) (wa_cons (w_tup (wa_cons w_int (wa_cons w_int wa_nil))) (wa_cons (w_tup (wa_cons (w_un un_neg sn_neg w_int) (wa_cons w_int wa_nil))) (wa_cons (w_tup (wa_cons w_int (wa_cons w_int wa_nil))) (wa_cons (w_tup (wa_cons w_int (wa_cons w_int wa_nil))) (wa_cons (w_tup (wa_cons (w_un un_neg sn_neg w_int) (wa_cons w_int wa_nil))) (wa_cons (w_tup (wa_cons w_int (wa_cons w_int wa_nil))) (wa_cons (w_tup (wa_cons w_int (wa_cons w_int wa_nil))) (wa_cons (w_tup (wa_cons (w_un un_neg sn_neg w_int) (wa_cons w_int wa_nil))) (wa_cons (w_tup (wa_cons w_int (wa_cons w_int wa_nil))) wa_nil))))))))))) wa_nil)))))
theorem has__law_net_fraction (c : SaysA cks dfs K) (Y : K.In h) (G : h.Ns mainGlobals mg) : Has R.prog w K mg base "_law_net_fraction" (defArgs (top 88)) ["pot"] 3 m__law_net_fraction := by
  obtain ⟨fd, F⟩ := fd__law_net_fraction c
  exact ⟨⟨_, fd, _, _, _, ckG_ok Y G (c.ck 43 (f := ckG "_law_net_fraction")), wk__law_net_fraction c Y G F, F⟩⟩
theorem fd__law_net_spot (c : SaysA cks dfs K) : ∃ fd, FunD K "_law_net_spot" "_law_net_spot" (defArgs (top 89)) (defBody (top 89)) (defScope (top 89)) [] [] (atG "_law_net_spot" K) fd := c.df 5 (d := d__law_net_spot)
theorem wk__law_net_spot (c : SaysA cks dfs K) (Y : K.In h) (G : h.Ns mainGlobals mg) {fd : FuncData} (F : FunD K "_law_net_spot" "_law_net_spot" (defArgs (top 89)) (defBody (top 89)) (defScope (top 89)) [] [] (atG "_law_net_spot" K) fd) : FnG R.prog w K mg base 4 (atG "_law_net_spot" K) fd ["pot", "many"] (spOf K ["pot", "many"].length m__law_net_spot) :=
  fnG_mk (k := 3) F sc__law_net_spot fun cdv A outer s H E hk tk po => by
  have nd := sc__law_net_spot.nd
  unfold b__law_net_spot
  exact (ws_one (w_ret (w_callTy (cr_tup rfl) sn_tup (f_tuple c Y G) rfl (wa_cons (w_lc (own := [("lap", 2)]) rfl nd (w_range1 (f_range c Y G) (wa_cons (w_var 1) wa_nil)) (blkOk_by (by kernel_rfl)) (fun _ _ _ _ _ => (wgw_name 2 nd)) (fun _ _ _ _ _ => wts_nil) (fun _ _ _ _ _ => (w_call (has__law_net_fraction c Y G) bp__law_net_fraction ((Here.blk hk _ _ _ _ _).mono (by decide)) takes_none (wa_cons (w_var 0) wa_nil)))) wa_nil))))
theorem has__law_net_spot (c : SaysA cks dfs K) (Y : K.In h) (G : h.Ns mainGlobals mg) : Has R.prog w K mg base "_law_net_spot" (defArgs (top 89)) ["pot", "many"] 4 m__law_net_spot := by
  obtain ⟨fd, F⟩ := fd__law_net_spot c
  exact ⟨⟨_, fd, _, _, _, ckG_ok Y G (c.ck 44 (f := ckG "_law_net_spot")), wk__law_net_spot c Y G F, F⟩⟩
theorem fd__law_net_names (c : SaysA cks dfs K) : ∃ fd, FunD K "_law_net_names" "_law_net_names" (defArgs (top 82)) (defBody (top 82)) (defScope (top 82)) [] [] (atG "_law_net_names" K) fd := c.df 6 (d := d__law_net_names)
theorem wk__law_net_names (c : SaysA cks dfs K) (Y : K.In h) (G : h.Ns mainGlobals mg) {fd : FuncData} (F : FunD K "_law_net_names" "_law_net_names" (defArgs (top 82)) (defBody (top 82)) (defScope (top 82)) [] [] (atG "_law_net_names" K) fd) : FnG R.prog w K mg base 1 (atG "_law_net_names" K) fd ["own"] (spOf K ["own"].length m__law_net_names) :=
  fnG_mk (k := 0) F sc__law_net_names fun cdv A outer s H E hk tk po => by
  have nd := sc__law_net_names.nd
  unfold b__law_net_names
  exact (ws_one (w_ret (w_lc (own := [("row", 1)]) rfl nd (w_seq (w_bin or_add (sn_add (b := false)) (w_ix hk (w_var 0) w_str) (w_ix hk (w_var 0) w_str))) (blkOk_by (by kernel_rfl)) (fun _ _ _ _ _ => (wgw_name 1 nd)) (fun _ _ _ _ _ => wts_nil) (fun _ _ _ _ _ => (w_ix (Here.blk hk _ _ _ _ _) (w_var 1) w_int)))))
theorem has__law_net_names (c : SaysA cks dfs K) (Y : K.In h) (G : h.Ns mainGlobals mg) : Has R.prog w K mg base "_law_net_names" (defArgs (top 82)) ["own"] 1 m__law_net_names := by
  obtain ⟨fd, F⟩ := fd__law_net_names c
  exact ⟨⟨_, fd, _, _, _, ckG_ok Y G (c.ck 45 (f := ckG "_law_net_names")), wk__law_net_names c Y G F, F⟩⟩
theorem fd__law_frac_common (c : SaysA cks dfs K) : ∃ fd, FunD K "_law_frac_common" "_law_frac_common" (defArgs (top 72)) (defBody (top 72)) (defScope (top 72)) [] [] (atG "_law_frac_common" K) fd := c.df 7 (d := d__law_frac_common)
theorem wk__law_frac_common (c : SaysA cks dfs K) (Y : K.In h) (G : h.Ns mainGlobals mg) {fd : FuncData} (F : FunD K "_law_frac_common" "_law_frac_common" (defArgs (top 72)) (defBody (top 72)) (defScope (top 72)) [] [] (atG "_law_frac_common" K) fd) : FnG R.prog w K mg base 1 (atG "_law_frac_common" K) fd ["one", "other"] (spOf K ["one", "other"].length m__law_frac_common) :=
  fnG_mk (k := 0) F sc__law_frac_common fun cdv A outer s H E hk tk po => by
  have nd := sc__law_frac_common.nd
  unfold b__law_frac_common
  exact (ws_cons (w_par rfl nd (wa_cons (w_callB call_abs sn_abs (f_abs c Y G) rfl (wa_cons (w_var 0) wa_nil)) (wa_cons (w_callB call_abs sn_abs (f_abs c Y G) rfl (wa_cons (w_var 1) wa_nil)) wa_nil)))
    (ws_cons (w_while po (wt_cmp op_gt cs_int (w_var 1) w_int) (ws_one (w_par rfl nd (wa_cons (w_var 1) (wa_cons (w_bin op_mod sn_mod (w_callTy cr_int sn_intc (f_int c Y G) rfl (wa_cons (w_var 0) wa_nil)) (w_var 1)) wa_nil)))))
    (ws_one (w_ret (w_var 0)))))
theorem has__law_frac_common (c : SaysA cks dfs K) (Y : K.In h) (G : h.Ns mainGlobals mg) : Has R.prog w K mg base "_law_frac_common" (defArgs (top 72)) ["one", "other"] 1 m__law_frac_common := by
  obtain ⟨fd, F⟩ := fd__law_frac_common c
  exact ⟨⟨_, fd, _, _, _, ckG_ok Y G (c.ck 46 (f := ckG "_law_frac_common")), wk__law_frac_common c Y G F, F⟩⟩
theorem fd__law_frac (c : SaysA cks dfs K) : ∃ fd, FunD K "_law_frac" "_law_frac" (defArgs (top 73)) (defBody (top 73)) (defScope (top 73)) [] [] (atG "_law_frac" K) fd := c.df 8 (d := d__law_frac)
theorem wk__law_frac (c : SaysA cks dfs K) (Y : K.In h) (G : h.Ns mainGlobals mg) {fd : FuncData} (F : FunD K "_law_frac" "_law_frac" (defArgs (top 73)) (defBody (top 73)) (defScope (top 73)) [] [] (atG "_law_frac" K) fd) : FnG R.prog w K mg base 2 (atG "_law_frac" K) fd ["top", "bottom"] (spOf K ["top", "bottom"].length m__law_frac) :=
  fnG_mk (k := 1) F sc__law_frac fun cdv A outer s H E hk tk po => by
  have nd := sc__law_frac.nd
  unfold b__law_frac
  exact (ws_cons (w_asg (w_call (has__law_frac_common c Y G) bp__law_frac_common (hk.mono (by decide)) tk (wa_cons (w_var 0) (wa_cons (w_var 1) wa_nil))) (wg_name 2 nd))
    (ws_cons (w_asg (w_ifE (wt_cmp op_gt cs_int (w_var 1) w_int) (w_var 2) (w_un un_neg sn_neg (w_var 2))) (wg_name 2 nd))
    (ws_one (w_ret (w_tup (wa_cons (w_bin op_fdivW sn_div (w_var 0) (w_var 2)) (wa_cons (w_bin op_fdivW sn_div (w_var 1) (w_var 2)) wa_nil)))))))
theorem has__law_frac (c : SaysA cks dfs K) (Y : K.In h) (G : h.Ns mainGlobals mg) : Has R.prog w K mg base "_law_frac" (defArgs (top 73)) ["top", "bottom"] 2 m__law_frac := by
  obtain ⟨fd, F⟩ := fd__law_frac c
  exact ⟨⟨_, fd, _, _, _, ckG_ok Y G (c.ck 47 (f := ckG "_law_frac")), wk__law_frac c Y G F, F⟩⟩
theorem fd__law_frac_less (c : SaysA cks dfs K) : ∃ fd, FunD K "_law_frac_less" "_law_frac_less" (defArgs (top 75)) (defBody (top 75)) (defScope (top 75)) [] [] (atG "_law_frac_less" K) fd := c.df 9 (d := d__law_frac_less)
theorem wk__law_frac_less (c : SaysA cks dfs K) (Y : K.In h) (G : h.Ns mainGlobals mg) {fd : FuncData} (F : FunD K "_law_frac_less" "_law_frac_less" (defArgs (top 75)) (defBody (top 75)) (defScope (top 75)) [] [] (atG "_law_frac_less" K) fd) : FnG R.prog w K mg base 3 (atG "_law_frac_less" K) fd ["one", "other"] (spOf K ["one", "other"].length m__law_frac_less) :=
  fnG_mk (k := 2) F sc__law_frac_less fun cdv A outer s H E hk tk po => by
  have nd := sc__law_frac_less.nd
  unfold b__law_frac_less
  exact (ws_one (w_ret (w_call (has__law_frac c Y G) bp__law_frac (hk.mono (by decide)) tk (wa_cons (w_bin op_sub sn_sub (w_bin or_mul sn_mul (w_ix hk (w_var 0) w_int) (w_ix hk (w_var 1) w_int)) (w_bin or_mul sn_mul (w_ix hk (w_var 1) w_int) (w_ix hk (w_var 0) w_int))) (wa_cons (w_bin or_mul sn_mul (w_ix hk (w_var 0) w_int) (w_ix hk (w_var 1) w_int)) wa_nil)))))
theorem has__law_frac_less (c : SaysA cks dfs K) (Y : K.In h) (G : h.Ns mainGlobals mg) : Has R.prog w K mg base "_law_frac_less" (defArgs (top 75)) ["one", "other"] 3 m__law_frac_less := by
  obtain ⟨fd, F⟩ := fd__law_frac_less c
  exact ⟨⟨_, fd, _, _, _, ckG_ok Y G (c.ck 48 (f := ckG "_law_frac_less")), wk__law_frac_less c Y G F, F⟩⟩
theorem fd__law_row_less (c : SaysA cks dfs K) : ∃ fd, FunD K "_law_row_less" "_law_row_less" (defArgs (top 79)) (defBody (top 79)) (defScope (top 79)) [] [] (atG "_law_row_less" K) fd := c.df 10 (d := d__law_row_less)
theorem wk__law_row_less (c : SaysA cks dfs K) (Y : K.In h) (G : h.Ns mainGlobals mg) {fd : FuncData} (F : FunD K "_law_row_less" "_law_row_less" (defArgs (top 79)) (defBody (top 79)) (defScope (top 79)) [] [] (atG "_law_row_less" K) fd) : FnG R.prog w K mg base 4 (atG "_law_row_less" K) fd ["one", "other"] (spOf K ["one", "other"].length m__law_row_less) :=
  fnG_mk (k := 3) F sc__law_row_less fun cdv A outer s H E hk tk po => by
  have nd := sc__law_row_less.nd
  unfold b__law_row_less
  exact (ws_one (w_ret (w_callTy (cr_tup rfl) sn_tup (f_tuple c Y G) rfl (wa_cons (w_lc (own := [("mine", 2), ("its", 3)]) rfl nd (w_zip (f_zip c Y G) (wa_cons (w_var 0) (wa_cons (w_var 1) wa_nil))) (blkOk_by (by kernel_rfl)) (fun _ _ _ _ _ => (wgw_tup rfl (wgws_cons (wgw_name 2 nd) (wgws_cons (wgw_name 3 nd) wgws_nil)))) (fun _ _ _ _ _ => wts_nil) (fun _ _ _ _ _ => (w_call (has__law_frac_less c Y G) bp__law_frac_less ((Here.blk hk _ _ _ _ _).mono (by decide)) takes_none (wa_cons (w_var 2) (wa_cons (w_var 3) wa_nil))))) wa_nil))))
theorem has__law_row_less (c : SaysA cks dfs K) (Y : K.In h) (G : h.Ns mainGlobals mg) : Has R.prog w K mg base "_law_row_less" (defArgs (top 79)) ["one", "other"] 4 m__law_row_less := by
  obtain ⟨fd, F⟩ := fd__law_row_less c
  exact ⟨⟨_, fd, _, _, _, ckG_ok Y G (c.ck 49 (f := ckG "_law_row_less")), wk__law_row_less c Y G F, F⟩⟩
theorem fd__law_net_place (c : SaysA cks dfs K) : ∃ fd, FunD K "_law_net_place" "_law_net_place" (defArgs (top 84)) (defBody (top 84)) (defScope (top 84)) [] [] (atG "_law_net_place" K) fd := c.df 11 (d := d__law_net_place)
theorem wk__law_net_place (c : SaysA cks dfs K) (Y : K.In h) (G : h.Ns mainGlobals mg) {fd : FuncData} (F : FunD K "_law_net_place" "_law_net_place" (defArgs (top 84)) (defBody (top 84)) (defScope (top 84)) [] [] (atG "_law_net_place" K) fd) : FnG R.prog w K mg base 1 (atG "_law_net_place" K) fd ["own", "name"] (spOf K ["own", "name"].length m__law_net_place) :=
  fnG_mk (k := 0) F sc__law_net_place fun cdv A outer s H E hk tk po => by
  have nd := sc__law_net_place.nd
  unfold b__law_net_place
  exact (ws_one (w_ret (w_ix hk (w_lc (own := [("row", 2)]) rfl nd (w_seq (w_bin or_add (sn_add (b := false)) (w_ix hk (w_var 0) w_str) (w_ix hk (w_var 0) w_str))) (blkOk_by (by kernel_rfl)) (fun _ _ _ _ _ => (wgw_name 2 nd)) (fun _ _ _ _ _ => (wts_one (wt_cmp (or_eq (Here.blk hk _ _ _ _ _)) cs_eq (w_ix (Here.blk hk _ _ _ _ _) (w_var 2) w_int) (w_var 1)))) (fun _ _ _ _ _ => (w_ix (Here.blk hk _ _ _ _ _) (w_var 2) w_int))) w_int)))
theorem has__law_net_place (c : SaysA cks dfs K) (Y : K.In h) (G : h.Ns mainGlobals mg) : Has R.prog w K mg base "_law_net_place" (defArgs (top 84)) ["own", "name"] 1 m__law_net_place := by
  obtain ⟨fd, F⟩ := fd__law_net_place c
  exact ⟨⟨_, fd, _, _, _, ckG_ok Y G (c.ck 50 (f := ckG "_law_net_place")), wk__law_net_place c Y G F, F⟩⟩
theorem fd__law_frac_plus (c : SaysA cks dfs K) : ∃ fd, FunD K "_law_frac_plus" "_law_frac_plus" (defArgs (top 74)) (defBody (top 74)) (defScope (top 74)) [] [] (atG "_law_frac_plus" K) fd := c.df 12 (d := d__law_frac_plus)
theorem wk__law_frac_plus (c : SaysA cks dfs K) (Y : K.In h) (G : h.Ns mainGlobals mg) {fd : FuncData} (F : FunD K "_law_frac_plus" "_law_frac_plus" (defArgs (top 74)) (defBody (top 74)) (defScope (top 74)) [] [] (atG "_law_frac_plus" K) fd) : FnG R.prog w K mg base 3 (atG "_law_frac_plus" K) fd ["one", "other"] (spOf K ["one", "other"].length m__law_frac_plus) :=
  fnG_mk (k := 2) F sc__law_frac_plus fun cdv A outer s H E hk tk po => by
  have nd := sc__law_frac_plus.nd
  unfold b__law_frac_plus
  exact (ws_one (w_ret (w_call (has__law_frac c Y G) bp__law_frac (hk.mono (by decide)) tk (wa_cons (w_bin or_add (sn_add (b := false)) (w_bin or_mul sn_mul (w_ix hk (w_var 0) w_int) (w_ix hk (w_var 1) w_int)) (w_bin or_mul sn_mul (w_ix hk (w_var 1) w_int) (w_ix hk (w_var 0) w_int))) (wa_cons (w_bin or_mul sn_mul (w_ix hk (w_var 0) w_int) (w_ix hk (w_var 1) w_int)) wa_nil)))))
theorem has__law_frac_plus (c : SaysA cks dfs K) (Y : K.In h) (G : h.Ns mainGlobals mg) : Has R.prog w K mg base "_law_frac_plus" (defArgs (top 74)) ["one", "other"] 3 m__law_frac_plus := by
  obtain ⟨fd, F⟩ := fd__law_frac_plus c
  exact ⟨⟨_, fd, _, _, _, ckG_ok Y G (c.ck 51 (f := ckG "_law_frac_plus")), wk__law_frac_plus c Y G F, F⟩⟩
theorem fd__law_row_plus (c : SaysA cks dfs K) : ∃ fd, FunD K "_law_row_plus" "_law_row_plus" (defArgs (top 78)) (defBody (top 78)) (defScope (top 78)) [] [] (atG "_law_row_plus" K) fd := c.df 13 (d := d__law_row_plus)
theorem wk__law_row_plus (c : SaysA cks dfs K) (Y : K.In h) (G : h.Ns mainGlobals mg) {fd : FuncData} (F : FunD K "_law_row_plus" "_law_row_plus" (defArgs (top 78)) (defBody (top 78)) (defScope (top 78)) [] [] (atG "_law_row_plus" K) fd) : FnG R.prog w K mg base 4 (atG "_law_row_plus" K) fd ["one", "other"] (spOf K ["one", "other"].length m__law_row_plus) :=
  fnG_mk (k := 3) F sc__law_row_plus fun cdv A outer s H E hk tk po => by
  have nd := sc__law_row_plus.nd
  unfold b__law_row_plus
  exact (ws_one (w_ret (w_callTy (cr_tup rfl) sn_tup (f_tuple c Y G) rfl (wa_cons (w_lc (own := [("mine", 2), ("its", 3)]) rfl nd (w_zip (f_zip c Y G) (wa_cons (w_var 0) (wa_cons (w_var 1) wa_nil))) (blkOk_by (by kernel_rfl)) (fun _ _ _ _ _ => (wgw_tup rfl (wgws_cons (wgw_name 2 nd) (wgws_cons (wgw_name 3 nd) wgws_nil)))) (fun _ _ _ _ _ => wts_nil) (fun _ _ _ _ _ => (w_call (has__law_frac_plus c Y G) bp__law_frac_plus ((Here.blk hk _ _ _ _ _).mono (by decide)) takes_none (wa_cons (w_var 2) (wa_cons (w_var 3) wa_nil))))) wa_nil))))
theorem has__law_row_plus (c : SaysA cks dfs K) (Y : K.In h) (G : h.Ns mainGlobals mg) : Has R.prog w K mg base "_law_row_plus" (defArgs (top 78)) ["one", "other"] 4 m__law_row_plus := by
  obtain ⟨fd, F⟩ := fd__law_row_plus c
  exact ⟨⟨_, fd, _, _, _, ckG_ok Y G (c.ck 52 (f := ckG "_law_row_plus")), wk__law_row_plus c Y G F, F⟩⟩
theorem fd__law_frac_times (c : SaysA cks dfs K) : ∃ fd, FunD K "_law_frac_times" "_law_frac_times" (defArgs (top 76)) (defBody (top 76)) (defScope (top 76)) [] [] (atG "_law_frac_times" K) fd := c.df 14 (d := d__law_frac_times)
theorem wk__law_frac_times (c : SaysA cks dfs K) (Y : K.In h) (G : h.Ns mainGlobals mg) {fd : FuncData} (F : FunD K "_law_frac_times" "_law_frac_times" (defArgs (top 76)) (defBody (top 76)) (defScope (top 76)) [] [] (atG "_law_frac_times" K) fd) : FnG R.prog w K mg base 3 (atG "_law_frac_times" K) fd ["one", "other"] (spOf K ["one", "other"].length m__law_frac_times) :=
  fnG_mk (k := 2) F sc__law_frac_times fun cdv A outer s H E hk tk po => by
  have nd := sc__law_frac_times.nd
  unfold b__law_frac_times
  exact (ws_one (w_ret (w_call (has__law_frac c Y G) bp__law_frac (hk.mono (by decide)) tk (wa_cons (w_bin or_mul sn_mul (w_ix hk (w_var 0) w_int) (w_ix hk (w_var 1) w_int)) (wa_cons (w_bin or_mul sn_mul (w_ix hk (w_var 0) w_int) (w_ix hk (w_var 1) w_int)) wa_nil)))))
theorem has__law_frac_times (c : SaysA cks dfs K) (Y : K.In h) (G : h.Ns mainGlobals mg) : Has R.prog w K mg base "_law_frac_times" (defArgs (top 76)) ["one", "other"] 3 m__law_frac_times := by
  obtain ⟨fd, F⟩ := fd__law_frac_times c
  exact ⟨⟨_, fd, _, _, _, ckG_ok Y G (c.ck 53 (f := ckG "_law_frac_times")), wk__law_frac_times c Y G F, F⟩⟩
theorem fd__law_row_times (c : SaysA cks dfs K) : ∃ fd, FunD K "_law_row_times" "_law_row_times" (defArgs (top 80)) (defBody (top 80)) (defScope (top 80)) [] [] (atG "_law_row_times" K) fd := c.df 15 (d := d__law_row_times)
theorem wk__law_row_times (c : SaysA cks dfs K) (Y : K.In h) (G : h.Ns mainGlobals mg) {fd : FuncData} (F : FunD K "_law_row_times" "_law_row_times" (defArgs (top 80)) (defBody (top 80)) (defScope (top 80)) [] [] (atG "_law_row_times" K) fd) : FnG R.prog w K mg base 4 (atG "_law_row_times" K) fd ["row", "by"] (spOf K ["row", "by"].length m__law_row_times) :=
  fnG_mk (k := 3) F sc__law_row_times fun cdv A outer s H E hk tk po => by
  have nd := sc__law_row_times.nd
  unfold b__law_row_times
  exact (ws_one (w_ret (w_callTy (cr_tup rfl) sn_tup (f_tuple c Y G) rfl (wa_cons (w_lc (own := [("one", 2)]) rfl nd (w_seq (w_var 0)) (blkOk_by (by kernel_rfl)) (fun _ _ _ _ _ => (wgw_name 2 nd)) (fun _ _ _ _ _ => wts_nil) (fun _ _ _ _ _ => (w_call (has__law_frac_times c Y G) bp__law_frac_times ((Here.blk hk _ _ _ _ _).mono (by decide)) takes_none (wa_cons (w_var 2) (wa_cons (w_var 1) wa_nil))))) wa_nil))))
theorem has__law_row_times (c : SaysA cks dfs K) (Y : K.In h) (G : h.Ns mainGlobals mg) : Has R.prog w K mg base "_law_row_times" (defArgs (top 80)) ["row", "by"] 4 m__law_row_times := by
  obtain ⟨fd, F⟩ := fd__law_row_times c
  exact ⟨⟨_, fd, _, _, _, ckG_ok Y G (c.ck 54 (f := ckG "_law_row_times")), wk__law_row_times c Y G F, F⟩⟩
theorem fd__law_net_rings (c : SaysA cks dfs K) : ∃ fd, FunD K "_law_net_rings" "_law_net_rings" (defArgs (top 83)) (defBody (top 83)) (defScope (top 83)) [] [] (atG "_law_net_rings" K) fd := c.df 16 (d := d__law_net_rings)
theorem wk__law_net_rings (c : SaysA cks dfs K) (Y : K.In h) (G : h.Ns mainGlobals mg) {fd : FuncData} (F : FunD K "_law_net_rings" "_law_net_rings" (defArgs (top 83)) (defBody (top 83)) (defScope (top 83)) [] [] (atG "_law_net_rings" K) fd) : FnG R.prog w K mg base 1 (atG "_law_net_rings" K) fd ["own"] (spOf K ["own"].length m__law_net_rings) :=
  fnG_mk (k := 0) F sc__law_net_rings fun cdv A outer s H E hk tk po => by
  have nd := sc__law_net_rings.nd
  unfold b__law_net_rings
  exact (ws_one (w_ret (w_lc (own := [("row", 1)]) rfl nd (w_seq (w_ix hk (w_var 0) w_str)) (blkOk_by (by kernel_rfl)) (fun _ _ _ _ _ => (wgw_name 1 nd)) (fun _ _ _ _ _ => wts_nil) (fun _ _ _ _ _ => (w_ix (Here.blk hk _ _ _ _ _) (w_var 1) w_int)))))
theorem has__law_net_rings (c : SaysA cks dfs K) (Y : K.In h) (G : h.Ns mainGlobals mg) : Has R.prog w K mg base "_law_net_rings" (defArgs (top 83)) ["own"] 1 m__law_net_rings := by
  obtain ⟨fd, F⟩ := fd__law_net_rings c
  exact ⟨⟨_, fd, _, _, _, ckG_ok Y G (c.ck 55 (f := ckG "_law_net_rings")), wk__law_net_rings c Y G F, F⟩⟩
theorem fd__law_net_tied (c : SaysA cks dfs K) : ∃ fd, FunD K "_law_net_tied" "_law_net_tied" (defArgs (top 90)) (defBody (top 90)) (defScope (top 90)) [] [] (atG "_law_net_tied" K) fd := c.df 17 (d := d__law_net_tied)
theorem wk__law_net_tied (c : SaysA cks dfs K) (Y : K.In h) (G : h.Ns mainGlobals mg) {fd : FuncData} (F : FunD K "_law_net_tied" "_law_net_tied" (defArgs (top 90)) (defBody (top 90)) (defScope (top 90)) [] [] (atG "_law_net_tied" K) fd) : FnG R.prog w K mg base 2 (atG "_law_net_tied" K) fd ["own", "one", "other"] (spOf K ["own", "one", "other"].length m__law_net_tied) :=
  fnG_mk (k := 1) F sc__law_net_tied fun cdv A outer s H E hk tk po => by
  have nd := sc__law_net_tied.nd
  unfold b__law_net_tied
  exact (ws_cons (w_asg (w_call (has__law_net_rings c Y G) bp__law_net_rings (hk.mono (by decide)) tk (wa_cons (w_var 0) wa_nil)) (wg_name 3 nd))
    (ws_cons (w_if (wt_or (wt_cmp (or_eq hk) cs_eq (w_var 1) (w_var 2)) (wt_or (wt_and (wt_cmp (or_notin hk) cs_notin (w_var 1) (w_var 3)) (wt_and1 (wt_cmp (or_notin hk) cs_notin (w_var 2) (w_var 3)))).pt (wt_or1 (wt_cmp op_gt cs_int (w_callB cr_len sn_len (f_len c Y G) rfl (wa_cons (w_ix hk (w_var 0) w_str) wa_nil)) w_int)))).pt (ws_one (w_ret w_bl)) ws_nil)
    (ws_cons (w_if (wt_or (wt_cmp (or_in hk) cs_in (w_tup (wa_cons (w_var 1) (wa_cons (w_var 2) wa_nil))) (w_ix hk (w_var 0) w_str)) (wt_or1 (wt_cmp (or_in hk) cs_in (w_tup (wa_cons (w_var 2) (wa_cons (w_var 1) wa_nil))) (w_ix hk (w_var 0) w_str)))).pt (ws_one (w_ret w_bl)) ws_nil)
    (ws_one (w_ret (w_cmp (or_ne hk) cs_ne (w_call (has__law_net_place c Y G) bp__law_net_place (hk.mono (by decide)) tk (wa_cons (w_var 0) (wa_cons (w_var 1) wa_nil))) (w_call (has__law_net_place c Y G) bp__law_net_place (hk.mono (by decide)) tk (wa_cons (w_var 0) (wa_cons (w_var 2) wa_nil)))))))))
theorem has__law_net_tied (c : SaysA cks dfs K) (Y : K.In h) (G : h.Ns mainGlobals mg) : Has R.prog w K mg base "_law_net_tied" (defArgs (top 90)) ["own", "one", "other"] 2 m__law_net_tied := by
  obtain ⟨fd, F⟩ := fd__law_net_tied c
  exact ⟨⟨_, fd, _, _, _, ckG_ok Y G (c.ck 56 (f := ckG "_law_net_tied")), wk__law_net_tied c Y G F, F⟩⟩
theorem fd__law_net_ring_drawn (c : SaysA cks dfs K) : ∃ fd, FunD K "_law_net_ring_drawn" "_law_net_ring_drawn" (defArgs (top 91)) (defBody (top 91)) (defScope (top 91)) [] [] (atG "_law_net_ring_drawn" K) fd := c.df 18 (d := d__law_net_ring_drawn)
theorem wk__law_net_ring_drawn (c : SaysA cks dfs K) (Y : K.In h) (G : h.Ns mainGlobals mg) {fd : FuncData} (F : FunD K "_law_net_ring_drawn" "_law_net_ring_drawn" (defArgs (top 91)) (defBody (top 91)) (defScope (top 91)) [] [] (atG "_law_net_ring_drawn" K) fd) : FnG R.prog w K mg base 5 (atG "_law_net_ring_drawn" K) fd ["pot", "own", "name"] (spOf K ["pot", "own", "name"].length m__law_net_ring_drawn) :=
  fnG_mk (k := 4) F sc__law_net_ring_drawn fun cdv A outer s H E hk tk po => by
  have nd := sc__law_net_ring_drawn.nd
  unfold b__law_net_ring_drawn
  exact (ws_cons (w_par rfl nd (wa_cons (w_call (has__law_net_names c Y G) bp__law_net_names (hk.mono (by decide)) tk (wa_cons (w_var 1) wa_nil)) (wa_cons (w_ix hk (w_var 1) w_str) wa_nil)))
    (ws_cons (w_par rfl nd (wa_cons (w_call (has__law_of c Y G) bp__law_of (hk.mono (by decide)) tk (wa_cons (w_var 0) (wa_cons (w_var 3) wa_nil))) (wa_cons (w_call (has__law_of c Y G) bp__law_of (hk.mono (by decide)) tk (wa_cons (w_var 0) (wa_cons (w_var 3) wa_nil))) wa_nil)))
    (ws_cons (w_asg (w_call (has__law_of c Y G) bp__law_of (hk.mono (by decide)) tk (wa_cons (w_var 0) (wa_cons (w_lst false (wa_cons (w_tup (wa_cons w_int (wa_cons w_int wa_nil))) (wa_cons (w_tup (wa_cons w_int (wa_cons w_int wa_nil))) (wa_cons (w_tup (wa_cons w_int (wa_cons w_int wa_nil))) (wa_cons (w_tup (wa_cons w_int (wa_cons w_int wa_nil))) (wa_cons (w_tup (wa_cons w_int (wa_cons w_int wa_nil))) wa_nil)))))) wa_nil))) (wg_name 7 nd))
    (ws_cons (w_asg (w_call (has__law_row_less c Y G) bp__law_row_less (hk.mono (by decide)) tk (wa_cons (w_call (has__law_net_place c Y G) bp__law_net_place (hk.mono (by decide)) tk (wa_cons (w_var 1) (wa_cons (w_var 6) wa_nil))) (wa_cons (w_call (has__law_net_place c Y G) bp__law_net_place (hk.mono (by decide)) tk (wa_cons (w_var 1) (wa_cons (w_var 5) wa_nil))) wa_nil))) (wg_name 8 nd))
    (ws_cons (w_asg (w_call (has__law_row_plus c Y G) bp__law_row_plus (hk.mono (by decide)) tk (wa_cons (w_call (has__law_net_place c Y G) bp__law_net_place (hk.mono (by decide)) tk (wa_cons (w_var 1) (wa_cons (w_var 5) wa_nil))) (wa_cons (w_call (has__law_row_times c Y G) bp__law_row_times (hk.mono (by decide)) tk (wa_cons (w_var 8) (wa_cons (w_var 7) wa_nil))) wa_nil))) (wg_name 9 nd))
    (ws_cons (w_asg (w_and (w_cmp op_gt cs_int (w_call (has__law_take c Y G) bp__law_take (hk.mono (by decide)) tk (wa_cons (w_var 0) (wa_cons w_int wa_nil))) w_int) (w_one (w_callB (cr_all rfl) sn_all (f_all c Y G) rfl (wa_cons (w_lc (own := [("part", 12)]) rfl nd (w_seq (w_var 9)) (blkOk_by (by kernel_rfl)) (fun _ _ _ _ _ => (wgw_name 12 nd)) (fun _ _ _ _ _ => wts_nil) (fun _ _ _ _ _ => (w_and (w_cmp op_le cs_int (w_ix (Here.blk hk _ _ _ _ _) (w_var 12) w_int) w_int) (w_one (w_cmp op_le cs_int (w_callB call_abs sn_abs (f_abs c Y G) rfl (wa_cons (w_ix (Here.blk hk _ _ _ _ _) (w_var 12) w_int) wa_nil)) w_int))))) wa_nil)))) (wg_name 10 nd))
    (ws_cons (w_asg (w_ifE (wt_truth (w_var 10)) (w_var 9) (w_call (has__law_net_spot c Y G) bp__law_net_spot (hk.mono (by decide)) tk (wa_cons (w_var 0) (wa_cons (w_var 4) wa_nil)))) (wg_name 9 nd))
    (ws_cons (w_expr (w_bm PySem.F.plainAttrs_list PySem.F.slot_list_append PySem.F.type_list_append mt_append sn_append (w_ix hk (w_var 1) w_str) (wa_cons (w_tup (wa_cons (w_var 2) (wa_cons (w_var 9) (wa_cons (w_callTy (cr_tup rfl) sn_tup (f_tuple c Y G) rfl (wa_cons (w_bin or_mulB (sn_mulB (b := false)) (w_lst false (wa_cons (w_tup (wa_cons w_int (wa_cons w_int wa_nil))) wa_nil)) (w_var 4)) wa_nil)) wa_nil)))) wa_nil)))
    (ws_one (w_for po rfl (w_seq (w_ifE (wt_truth (w_var 10)) (w_tup (wa_cons (w_var 5) (wa_cons (w_var 6) wa_nil))) (w_tup (wa_cons (w_var 5) wa_nil)))) (wg_name 11 nd) (ws_one (w_if (wt_truth (w_call (has__law_net_tied c Y G) bp__law_net_tied (hk.mono (by decide)) tk (wa_cons (w_var 1) (wa_cons (w_var 2) (wa_cons (w_var 11) wa_nil))))) (ws_one (w_expr (w_bm PySem.F.plainAttrs_list PySem.F.slot_list_append PySem.F.type_list_append mt_append sn_append (w_ix hk (w_var 1) w_str) (wa_cons (w_call (has__law_of c Y G) bp__law_of (hk.mono (by decide)) tk (wa_cons (w_var 0) (wa_cons (w_lst false (wa_cons (w_tup (wa_cons (w_var 2) (wa_cons (w_var 11) wa_nil))) (wa_cons (w_tup (wa_cons (w_var 11) (wa_cons (w_var 2) wa_nil))) wa_nil))) wa_nil))) wa_nil)))) ws_nil))))))))))))
theorem has__law_net_ring_drawn (c : SaysA cks dfs K) (Y : K.In h) (G : h.Ns mainGlobals mg) : Has R.prog w K mg base "_law_net_ring_drawn" (defArgs (top 91)) ["pot", "own", "name"] 5 m__law_net_ring_drawn := by
  obtain ⟨fd, F⟩ := fd__law_net_ring_drawn c
  exact ⟨⟨_, fd, _, _, _, ckG_ok Y G (c.ck 57 (f := ckG "_law_net_ring_drawn")), wk__law_net_ring_drawn c Y G F, F⟩⟩
theorem fd__law_net_weight (c : SaysA cks dfs K) : ∃ fd, FunD K "_law_net_weight" "_law_net_weight" (defArgs (top 85)) (defBody (top 85)) (defScope (top 85)) [] [] (atG "_law_net_weight" K) fd := c.df 19 (d := d__law_net_weight)
theorem wk__law_net_weight (c : SaysA cks dfs K) (Y : K.In h) (G : h.Ns mainGlobals mg) {fd : FuncData} (F : FunD K "_law_net_weight" "_law_net_weight" (defArgs (top 85)) (defBody (top 85)) (defScope (top 85)) [] [] (atG "_law_net_weight" K) fd) : FnG R.prog w K mg base 1 (atG "_law_net_weight" K) fd ["own", "name"] (spOf K ["own", "name"].length m__law_net_weight) :=
  fnG_mk (k := 0) F sc__law_net_weight fun cdv A outer s H E hk tk po => by
  have nd := sc__law_net_weight.nd
  unfold b__law_net_weight
  exact (ws_one (w_ret (w_ix hk (w_lc (own := [("row", 2)]) rfl nd (w_seq (w_ix hk (w_var 0) w_str)) (blkOk_by (by kernel_rfl)) (fun _ _ _ _ _ => (wgw_name 2 nd)) (fun _ _ _ _ _ => (wts_one (wt_cmp (or_eq (Here.blk hk _ _ _ _ _)) cs_eq (w_ix (Here.blk hk _ _ _ _ _) (w_var 2) w_int) (w_var 1)))) (fun _ _ _ _ _ => (w_ix (Here.blk hk _ _ _ _ _) (w_var 2) w_int))) w_int)))
theorem has__law_net_weight (c : SaysA cks dfs K) (Y : K.In h) (G : h.Ns mainGlobals mg) : Has R.prog w K mg base "_law_net_weight" (defArgs (top 85)) ["own", "name"] 1 m__law_net_weight := by
  obtain ⟨fd, F⟩ := fd__law_net_weight c
  exact ⟨⟨_, fd, _, _, _, ckG_ok Y G (c.ck 58 (f := ckG "_law_net_weight")), wk__law_net_weight c Y G F, F⟩⟩
theorem fd__law_net_way (c : SaysA cks dfs K) : ∃ fd, FunD K "_law_net_way" "_law_net_way" (defArgs (top 86)) (defBody (top 86)) (defScope (top 86)) [] [] (atG "_law_net_way" K) fd := c.df 20 (d := d__law_net_way)
theorem wk__law_net_way (c : SaysA cks dfs K) (Y : K.In h) (G : h.Ns mainGlobals mg) {fd : FuncData} (F : FunD K "_law_net_way" "_law_net_way" (defArgs (top 86)) (defBody (top 86)) (defScope (top 86)) [] [] (atG "_law_net_way" K) fd) : FnG R.prog w K mg base 5 (atG "_law_net_way" K) fd ["own", "cord", "name"] (spOf K ["own", "cord", "name"].length m__law_net_way) :=
  fnG_mk (k := 4) F sc__law_net_way fun cdv A outer s H E hk tk po => by
  have nd := sc__law_net_way.nd
  unfold b__law_net_way
  exact (ws_cons (w_asg (w_ix hk (w_ix hk (w_var 0) w_str) (w_var 1)) (wg_unp rfl (wgs_cons (wg_name 3 nd) (wgs_cons (wg_name 4 nd) wgs_nil))))
    (ws_cons (w_asg (w_ifE (wt_cmp (or_eq hk) cs_eq (w_var 2) (w_var 3)) (w_var 4) (w_var 3)) (wg_name 5 nd))
    (ws_one (w_ret (w_call (has__law_row_less c Y G) bp__law_row_less (hk.mono (by decide)) tk (wa_cons (w_call (has__law_net_place c Y G) bp__law_net_place (hk.mono (by decide)) tk (wa_cons (w_var 0) (wa_cons (w_var 5) wa_nil))) (wa_cons (w_call (has__law_net_place c Y G) bp__law_net_place (hk.mono (by decide)) tk (wa_cons (w_var 0) (wa_cons (w_var 2) wa_nil))) wa_nil)))))))
theorem has__law_net_way (c : SaysA cks dfs K) (Y : K.In h) (G : h.Ns mainGlobals mg) : Has R.prog w K mg base "_law_net_way" (defArgs (top 86)) ["own", "cord", "name"] 5 m__law_net_way := by
  obtain ⟨fd, F⟩ := fd__law_net_way c
  exact ⟨⟨_, fd, _, _, _, ckG_ok Y G (c.ck 59 (f := ckG "_law_net_way")), wk__law_net_way c Y G F, F⟩⟩
theorem fd__law_net_left (c : SaysA cks dfs K) : ∃ fd, FunD K "_law_net_left" "_law_net_left" (defArgs (top 87)) (defBody (top 87)) (defScope (top 87)) [] [] (atG "_law_net_left" K) fd := c.df 21 (d := d__law_net_left)
theorem wk__law_net_left (c : SaysA cks dfs K) (Y : K.In h) (G : h.Ns mainGlobals mg) {fd : FuncData} (F : FunD K "_law_net_left" "_law_net_left" (defArgs (top 87)) (defBody (top 87)) (defScope (top 87)) [] [] (atG "_law_net_left" K) fd) : FnG R.prog w K mg base 6 (atG "_law_net_left" K) fd ["own", "pulls", "name", "weighed"] (spOf K ["own", "pulls", "name", "weighed"].length m__law_net_left) :=
  fnG_mk (k := 5) F sc__law_net_left fun cdv A outer s H E hk tk po => by
  have nd := sc__law_net_left.nd
  unfold b__law_net_left
  exact (ws_cons (w_asg (w_ifE (wt_truth (w_var 3)) (w_call (has__law_net_weight c Y G) bp__law_net_weight (hk.mono (by decide)) tk (wa_cons (w_var 0) (wa_cons (w_var 2) wa_nil))) (w_bin or_mulB (sn_mulB (b := false)) (w_tup (wa_cons (w_tup (wa_cons w_int (wa_cons w_int wa_nil))) wa_nil)) (w_ix hk (w_var 0) w_str))) (wg_name 4 nd))
    (ws_cons (w_for po rfl (w_enum (f_enumerate c Y G) (wa_cons (w_var 1) wa_nil)) (wg_tup rfl (wgs_cons (wg_name 5 nd) (wgs_cons (wg_name 6 nd) wgs_nil))) (ws_one (w_if (wt_and (wt_cmp (or_in hk) cs_in (w_var 2) (w_ix hk (w_ix hk (w_var 0) w_str) (w_var 5))) (wt_and1 (wt_cmp (or_ne hk) cs_ne (w_ix hk (w_var 6) w_int) w_int))).pt (ws_one (w_asg (w_call (has__law_row_plus c Y G) bp__law_row_plus (hk.mono (by decide)) tk (wa_cons (w_var 4) (wa_cons (w_call (has__law_row_times c Y G) bp__law_row_times (hk.mono (by decide)) tk (wa_cons (w_call (has__law_net_way c Y G) bp__law_net_way (hk.mono (by decide)) tk (wa_cons (w_var 0) (wa_cons (w_var 5) (wa_cons (w_var 2) wa_nil)))) (wa_cons (w_var 6) wa_nil))) wa_nil))) (wg_name 4 nd))) ws_nil)))
    (ws_one (w_ret (w_var 4)))))
theorem has__law_net_left (c : SaysA cks dfs K) (Y : K.In h) (G : h.Ns mainGlobals mg) : Has R.prog w K mg base "_law_net_left" (defArgs (top 87)) ["own", "pulls", "name", "weighed"] 6 m__law_net_left := by
  obtain ⟨fd, F⟩ := fd__law_net_left c
  exact ⟨⟨_, fd, _, _, _, ckG_ok Y G (c.ck 60 (f := ckG "_law_net_left")), wk__law_net_left c Y G F, F⟩⟩
theorem fd__law_net_weighed (c : SaysA cks dfs K) : ∃ fd, FunD K "_law_net_weighed" "_law_net_weighed" (defArgs (top 92)) (defBody (top 92)) (defScope (top 92)) [] [] (atG "_law_net_weighed" K) fd := c.df 22 (d := d__law_net_weighed)
theorem wk__law_net_weighed (c : SaysA cks dfs K) (Y : K.In h) (G : h.Ns mainGlobals mg) {fd : FuncData} (F : FunD K "_law_net_weighed" "_law_net_weighed" (defArgs (top 92)) (defBody (top 92)) (defScope (top 92)) [] [] (atG "_law_net_weighed" K) fd) : FnG R.prog w K mg base 7 (atG "_law_net_weighed" K) fd ["pot", "own"] (spOf K ["pot", "own"].length m__law_net_weighed) :=
  fnG_mk (k := 6) F sc__law_net_weighed fun cdv A outer s H E hk tk po => by
  have nd := sc__law_net_weighed.nd
  unfold b__law_net_weighed
  exact (ws_cons (w_asg (w_call (has__law_take c Y G) bp__law_take (hk.mono (by decide)) tk (wa_cons (w_var 0) (wa_cons w_int wa_nil))) (wg_name 2 nd))
    (ws_cons (w_setLc (k := 3) (own := [("cord", 9)]) rfl nd (w_seq (w_ix hk (w_var 1) w_str)) (blkOk_by (by kernel_rfl)) (fun _ _ _ _ _ => (wgw_name 9 nd)) (fun _ _ _ _ _ => wts_nil) (fun _ _ _ _ _ => (w_call (has__law_of c Y G) bp__law_of ((Here.blk hk _ _ _ _ _).mono (by decide)) takes_none (wa_cons (w_var 0) (wa_cons (w_lst false (wa_cons (w_tup (wa_cons w_int (wa_cons w_int wa_nil))) (wa_cons (w_tup (wa_cons w_int (wa_cons w_int wa_nil))) (wa_cons (w_tup (wa_cons w_int (wa_cons w_int wa_nil))) (wa_cons (w_tup (wa_cons w_int (wa_cons w_int wa_nil))) (wa_cons (w_tup (wa_cons w_int (wa_cons w_int wa_nil))) wa_nil)))))) wa_nil)))))
    (ws_cons (w_asg (w_lst true wa_nil) (wg_name 4 nd))
    (ws_cons (w_for po rfl (w_seq (w_ix hk (w_var 1) w_str)) (wg_tup rfl (wgs_cons (wg_name 5 nd) (wgs_cons (wg_name 6 nd) (wgs_cons (wg_name 7 nd) wgs_nil)))) (ws_cons (w_asg (w_ifE (wt_cmp (or_eq hk) cs_eq (w_var 2) w_int) (w_var 7) (w_call (has__law_net_spot c Y G) bp__law_net_spot (hk.mono (by decide)) tk (wa_cons (w_var 0) (wa_cons (w_ix hk (w_var 1) w_str) wa_nil)))) (wg_name 8 nd))
    (ws_cons (w_if (wt_cmp op_gt cs_int (w_var 2) w_int) (ws_cons (w_asg (w_call (has__law_row_times c Y G) bp__law_row_times (hk.mono (by decide)) tk (wa_cons (w_call (has__law_net_left c Y G) bp__law_net_left (hk.mono (by decide)) tk (wa_cons (w_var 1) (wa_cons (w_var 3) (wa_cons (w_var 5) (wa_cons w_bl wa_nil))))) (wa_cons (w_tup (wa_cons (w_un un_neg sn_neg w_int) (wa_cons w_int wa_nil))) wa_nil))) (wg_name 8 nd))
    (ws_one (w_asg (w_ifE (wt_truth (w_callB (cr_all rfl) sn_all (f_all c Y G) rfl (wa_cons (w_lc (own := [("one", 10)]) rfl nd (w_seq (w_var 8)) (blkOk_by (by kernel_rfl)) (fun _ _ _ _ _ => (wgw_name 10 nd)) (fun _ _ _ _ _ => wts_nil) (fun _ _ _ _ _ => (w_and (w_cmp op_le cs_int (w_ix (Here.blk hk _ _ _ _ _) (w_var 10) w_int) w_int) (w_one (w_cmp op_le cs_int (w_callB call_abs sn_abs (f_abs c Y G) rfl (wa_cons (w_ix (Here.blk hk _ _ _ _ _) (w_var 10) w_int) wa_nil)) w_int))))) wa_nil))) (w_var 8) (w_var 7)) (wg_name 8 nd)))) ws_nil)
    (ws_one (w_expr (w_bm PySem.F.plainAttrs_list PySem.F.slot_list_append PySem.F.type_list_append mt_append sn_append (w_var 4) (wa_cons (w_tup (wa_cons (w_var 5) (wa_cons (w_var 6) (wa_cons (w_var 8) wa_nil)))) wa_nil)))))))
    (ws_one (w_ret (w_disp (wd_cons w_str (w_ix hk (w_var 1) w_str) (wd_cons w_str (w_ix hk (w_var 1) w_str) (wd_cons w_str (w_var 4) (wd_cons w_str (w_ix hk (w_var 1) w_str) wd_nil)))) (by decide +kernel) (by decide))))))))
theorem has__law_net_weighed (c : SaysA cks dfs K) (Y : K.In h) (G : h.Ns mainGlobals mg) : Has R.prog w K mg base "_law_net_weighed" (defArgs (top 92)) ["pot", "own"] 7 m__law_net_weighed := by
  obtain ⟨fd, F⟩ := fd__law_net_weighed c
  exact ⟨⟨_, fd, _, _, _, ckG_ok Y G (c.ck 61 (f := ckG "_law_net_weighed")), wk__law_net_weighed c Y G F, F⟩⟩
theorem fd__law_net_drawn (c : SaysA cks dfs K) : ∃ fd, FunD K "_law_net_drawn" "_law_net_drawn" (defArgs (top 93)) (defBody (top 93)) (defScope (top 93)) [] [] (atG "_law_net_drawn" K) fd := c.df 23 (d := d__law_net_drawn)
theorem wk__law_net_drawn (c : SaysA cks dfs K) (Y : K.In h) (G : h.Ns mainGlobals mg) {fd : FuncData} (F : FunD K "_law_net_drawn" "_law_net_drawn" (defArgs (top 93)) (defBody (top 93)) (defScope (top 93)) [] [] (atG "_law_net_drawn" K) fd) : FnG R.prog w K mg base 8 (atG "_law_net_drawn" K) fd ["pot", "most"] (spOf K ["pot", "most"].length m__law_net_drawn) :=
  fnG_mk (k := 7) F sc__law_net_drawn fun cdv A outer s H E hk tk po => by
  have nd := sc__law_net_drawn.nd
  unfold b__law_net_drawn
  exact (ws_cons (w_par rfl nd (wa_cons (w_call (has__law_of c Y G) bp__law_of (hk.mono (by decide)) tk (wa_cons (w_var 0) (wa_cons (w_lst false (wa_cons w_int (wa_cons w_int (wa_cons w_int (wa_cons w_int wa_nil))))) wa_nil))) (wa_cons (w_call (has__law_some c Y G) bp__law_some (hk.mono (by decide)) tk (wa_cons (w_var 0) (wa_cons (w_lst false (wa_cons w_str (wa_cons w_str (wa_cons w_str (wa_cons w_str (wa_cons w_str (wa_cons w_str (wa_cons w_str (wa_cons w_str wa_nil))))))))) (wa_cons w_int wa_nil)))) wa_nil)))
    (ws_cons (w_asg (w_disp (wd_cons w_str (w_var 2) (wd_cons w_str (w_lst true wa_nil) (wd_cons w_str (w_lst true wa_nil) (wd_cons w_str (w_lst true wa_nil) wd_nil)))) (by decide +kernel) (by decide)) (wg_name 4 nd))
    (ws_cons (w_for po rfl (w_seq (w_slice false (w_var 3) wo_none (wo_some (w_bin or_add (sn_add (b := false)) w_int (w_call (has__law_take c Y G) bp__law_take (hk.mono (by decide)) tk (wa_cons (w_var 0) (wa_cons w_int wa_nil))))))) (wg_name 5 nd) (ws_one (w_expr (w_bm PySem.F.plainAttrs_list PySem.F.slot_list_append PySem.F.type_list_append mt_append sn_append (w_ix hk (w_var 4) w_str) (wa_cons (w_tup (wa_cons (w_var 5) (wa_cons (w_call (has__law_net_spot c Y G) bp__law_net_spot (hk.mono (by decide)) tk (wa_cons (w_var 0) (wa_cons (w_var 2) wa_nil))) wa_nil))) wa_nil)))))
    (ws_cons (w_asg (w_slice false (w_var 3) (wo_some (w_callB cr_len sn_len (f_len c Y G) rfl (wa_cons (w_ix hk (w_var 4) w_str) wa_nil))) wo_none) (wg_name 6 nd))
    (ws_cons (w_for po rfl (w_seq (w_slice false (w_var 6) wo_none (wo_some (w_call (has__law_take c Y G) bp__law_take (hk.mono (by decide)) tk (wa_cons (w_var 0) (wa_cons (w_bin or_add (sn_add (b := false)) (w_var 1) w_int) wa_nil)))))) (wg_name 5 nd) (ws_one (w_expr (w_call (has__law_net_ring_drawn c Y G) bp__law_net_ring_drawn (hk.mono (by decide)) tk (wa_cons (w_var 0) (wa_cons (w_var 4) (wa_cons (w_var 5) wa_nil)))))))
    (ws_cons (w_for po rfl (w_range1 (f_range c Y G) (wa_cons (w_call (has__law_take c Y G) bp__law_take (hk.mono (by decide)) tk (wa_cons (w_var 0) (wa_cons w_int wa_nil))) wa_nil)) (wg_name 7 nd) (ws_cons (w_par rfl nd (wa_cons (w_call (has__law_of c Y G) bp__law_of (hk.mono (by decide)) tk (wa_cons (w_var 0) (wa_cons (w_var 3) wa_nil))) (wa_cons (w_call (has__law_of c Y G) bp__law_of (hk.mono (by decide)) tk (wa_cons (w_var 0) (wa_cons (w_var 3) wa_nil))) wa_nil)))
    (ws_one (w_if (wt_and (wt_cmp (or_in hk) cs_in (w_var 8) (w_call (has__law_net_names c Y G) bp__law_net_names (hk.mono (by decide)) tk (wa_cons (w_var 4) wa_nil))) (wt_and (wt_cmp (or_in hk) cs_in (w_var 9) (w_call (has__law_net_names c Y G) bp__law_net_names (hk.mono (by decide)) tk (wa_cons (w_var 4) wa_nil))) (wt_and1 (wt_truth (w_call (has__law_net_tied c Y G) bp__law_net_tied (hk.mono (by decide)) tk (wa_cons (w_var 4) (wa_cons (w_var 8) (wa_cons (w_var 9) wa_nil)))))))).pt (ws_one (w_expr (w_bm PySem.F.plainAttrs_list PySem.F.slot_list_append PySem.F.type_list_append mt_append sn_append (w_ix hk (w_var 4) w_str) (wa_cons (w_tup (wa_cons (w_var 8) (wa_cons (w_var 9) wa_nil))) wa_nil)))) ws_nil))))
    (ws_cons (w_asg (w_call (has__law_some c Y G) bp__law_some (hk.mono (by decide)) tk (wa_cons (w_var 0) (wa_cons (w_ix hk (w_var 4) w_str) (wa_cons (w_callB cr_len sn_len (f_len c Y G) rfl (wa_cons (w_ix hk (w_var 4) w_str) wa_nil)) wa_nil)))) (wg_sub hk (w_var 4) w_str))
    (ws_one (w_ret (w_call (has__law_net_weighed c Y G) bp__law_net_weighed (hk.mono (by decide)) tk (wa_cons (w_var 0) (wa_cons (w_var 4) wa_nil))))))))))))
theorem has__law_net_drawn (c : SaysA cks dfs K) (Y : K.In h) (G : h.Ns mainGlobals mg) : Has R.prog w K mg base "_law_net_drawn" (defArgs (top 93)) ["pot", "most"] 8 m__law_net_drawn := by
  obtain ⟨fd, F⟩ := fd__law_net_drawn c
  exact ⟨⟨_, fd, _, _, _, ckG_ok Y G (c.ck 62 (f := ckG "_law_net_drawn")), wk__law_net_drawn c Y G F, F⟩⟩
theorem fd_lines_of (c : SaysA cks dfs K) : ∃ fd, FunD K "lines_of" "lines_of" (defArgs (top 33)) (defBody (top 33)) (defScope (top 33)) [] [] (atG "lines_of" K) fd := c.df 24 (d := d_lines_of)
theorem wk_lines_of (c : SaysA cks dfs K) (Y : K.In h) (G : h.Ns mainGlobals mg) {fd : FuncData} (F : FunD K "lines_of" "lines_of" (defArgs (top 33)) (defBody (top 33)) (defScope (top 33)) [] [] (atG "lines_of" K) fd) : FnG R.prog w K mg base 1 (atG "lines_of" K) fd ["text"] (spOf K ["text"].length m_lines_of) :=
  fnG_mk (k := 0) F sc_lines_of fun cdv A outer s H E hk tk po => by
  have nd := sc_lines_of.nd
  unfold b_lines_of
  exact (ws_one (w_ret (w_lc (own := [("line", 1)]) rfl nd (w_seq (w_split false (w_var 0) (w_glo (g_FEED c Y G)))) (blkOk_by (by kernel_rfl)) (fun _ _ _ _ _ => (wgw_name 1 nd)) (fun _ _ _ _ _ => wts_nil) (fun _ _ _ _ _ => (w_split false (w_var 1) (w_glo (g_BLANK c Y G)))))))
theorem has_lines_of (c : SaysA cks dfs K) (Y : K.In h) (G : h.Ns mainGlobals mg) : Has R.prog w K mg base "lines_of" (defArgs (top 33)) ["text"] 1 m_lines_of := by
  obtain ⟨fd, F⟩ := fd_lines_of c
  exact ⟨⟨_, fd, _, _, _, ckG_ok Y G (c.ck 63 (f := ckG "lines_of")), wk_lines_of c Y G F, F⟩⟩
theorem fd_whole_in (c : SaysA cks dfs K) : ∃ fd, FunD K "whole_in" "whole_in" (defArgs (top 18)) (defBody (top 18)) (defScope (top 18)) [] [] (atG "whole_in" K) fd := c.df 25 (d := d_whole_in)
theorem wk_whole_in (c : SaysA cks dfs K) (Y : K.In h) (G : h.Ns mainGlobals mg) {fd : FuncData} (F : FunD K "whole_in" "whole_in" (defArgs (top 18)) (defBody (top 18)) (defScope (top 18)) [] [] (atG "whole_in" K) fd) : FnG R.prog w K mg base 1 (atG "whole_in" K) fd ["word"] (spOf K ["word"].length m_whole_in) :=
  fnG_mk (k := 0) F sc_whole_in fun cdv A outer s H E hk tk po => by
  have nd := sc_whole_in.nd
  unfold b_whole_in
  exact (ws_cons (w_asg (w_ifE (wt_cmp (or_eq hk) cs_eq (w_slice false (w_var 0) wo_none (wo_some w_int)) (w_glo (g_MINUS c Y G))) (w_slice false (w_var 0) (wo_some w_int) wo_none) (w_var 0)) (wg_name 1 nd))
    (ws_cons (w_if (wt_or (wt_not (wt_chain op_le cs_int op_le cs_int w_int (w_callB cr_len sn_len (f_len c Y G) rfl (wa_cons (w_var 1) wa_nil)) (w_glo (g_MOST_FIGURES c Y G)))) (wt_or1 (wt_not (wt_truth (w_callB (cr_all rfl) sn_all (f_all c Y G) rfl (wa_cons (w_lc (own := [("sign", 2)]) rfl nd (w_seq (w_var 1)) (blkOk_by (by kernel_rfl)) (fun _ _ _ _ _ => (wgw_name 2 nd)) (fun _ _ _ _ _ => wts_nil) (fun _ _ _ _ _ => (w_cmp (or_in (Here.blk hk _ _ _ _ _)) cs_in (w_var 2) (w_glo (g_FIGURES c Y G))))) wa_nil)))))).pt (ws_one (w_ret w_non)) ws_nil)
    (ws_one (w_ret (w_ifE (wt_and (wt_cmp (or_eq hk) cs_eq (w_ix hk (w_var 1) w_int) w_str) (wt_and1 (wt_cmp (or_ne hk) cs_ne (w_var 0) w_str))).pt w_non (w_callTy cr_int sn_intc (f_int c Y G) rfl (wa_cons (w_var 0) wa_nil)))))))
theorem has_whole_in (c : SaysA cks dfs K) (Y : K.In h) (G : h.Ns mainGlobals mg) : Has R.prog w K mg base "whole_in" (defArgs (top 18)) ["word"] 1 m_whole_in := by
  obtain ⟨fd, F⟩ := fd_whole_in c
  exact ⟨⟨_, fd, _, _, _, ckG_ok Y G (c.ck 64 (f := ckG "whole_in")), wk_whole_in c Y G F, F⟩⟩
theorem fd_is_whole (c : SaysA cks dfs K) : ∃ fd, FunD K "is_whole" "is_whole" (defArgs (top 7)) (defBody (top 7)) (defScope (top 7)) [] [] (atG "is_whole" K) fd := c.df 26 (d := d_is_whole)
theorem wk_is_whole (c : SaysA cks dfs K) (Y : K.In h) (G : h.Ns mainGlobals mg) {fd : FuncData} (F : FunD K "is_whole" "is_whole" (defArgs (top 7)) (defBody (top 7)) (defScope (top 7)) [] [] (atG "is_whole" K) fd) : FnG R.prog w K mg base 1 (atG "is_whole" K) fd ["value"] (spOf K ["value"].length m_is_whole) :=
  fnG_mk (k := 0) F sc_is_whole fun cdv A outer s H E hk tk po => by
  have nd := sc_is_whole.nd
  unfold b_is_whole
  exact (ws_one (w_ret (w_and (w_isi (U := "int") (w_var 0) (by decide) (f_isinstance c Y G) (f_int c Y G)) (w_one (w_not (w_isi (U := "bool") (w_var 0) (by decide) (f_isinstance c Y G) (f_bool c Y G)))))))
theorem has_is_whole (c : SaysA cks dfs K) (Y : K.In h) (G : h.Ns mainGlobals mg) : Has R.prog w K mg base "is_whole" (defArgs (top 7)) ["value"] 1 m_is_whole := by
  obtain ⟨fd, F⟩ := fd_is_whole c
  exact ⟨⟨_, fd, _, _, _, ckG_ok Y G (c.ck 65 (f := ckG "is_whole")), wk_is_whole c Y G F, F⟩⟩
theorem fd_is_integer (c : SaysA cks dfs K) : ∃ fd, FunD K "is_integer" "is_integer" (defArgs (top 27)) (defBody (top 27)) (defScope (top 27)) [] [] (atG "is_integer" K) fd := c.df 27 (d := d_is_integer)
theorem wk_is_integer (c : SaysA cks dfs K) (Y : K.In h) (G : h.Ns mainGlobals mg) {fd : FuncData} (F : FunD K "is_integer" "is_integer" (defArgs (top 27)) (defBody (top 27)) (defScope (top 27)) [] [] (atG "is_integer" K) fd) : FnG R.prog w K mg base 2 (atG "is_integer" K) fd ["value", "low", "high"] (spOf K ["value", "low", "high"].length m_is_integer) :=
  fnG_mk (k := 1) F sc_is_integer fun cdv A outer s H E hk tk po => by
  have nd := sc_is_integer.nd
  unfold b_is_integer
  exact (ws_one (w_ret (w_and (w_call (has_is_whole c Y G) bp_is_whole (hk.mono (by decide)) tk (wa_cons (w_var 0) wa_nil)) (w_one (w_chain op_le cs_int op_le cs_int (w_var 1) (w_var 0) (w_var 2))))))
theorem has_is_integer (c : SaysA cks dfs K) (Y : K.In h) (G : h.Ns mainGlobals mg) : Has R.prog w K mg base "is_integer" (defArgs (top 27)) ["value", "low", "high"] 2 m_is_integer := by
  obtain ⟨fd, F⟩ := fd_is_integer c
  exact ⟨⟨_, fd, _, _, _, ckG_ok Y G (c.ck 66 (f := ckG "is_integer")), wk_is_integer c Y G F, F⟩⟩
theorem fd_coords_in (c : SaysA cks dfs K) : ∃ fd, FunD K "coords_in" "coords_in" (defArgs (top 50)) (defBody (top 50)) (defScope (top 50)) [] [] (atG "coords_in" K) fd := c.df 28 (d := d_coords_in)
theorem wk_coords_in (c : SaysA cks dfs K) (Y : K.In h) (G : h.Ns mainGlobals mg) {fd : FuncData} (F : FunD K "coords_in" "coords_in" (defArgs (top 50)) (defBody (top 50)) (defScope (top 50)) [] [] (atG "coords_in" K) fd) : FnG R.prog w K mg base 3 (atG "coords_in" K) fd ["words"] (spOf K ["words"].length m_coords_in) :=
  fnG_mk (k := 2) F sc_coords_in fun cdv A outer s H E hk tk po => by
  have nd := sc_coords_in.nd
  unfold b_coords_in
  exact (ws_cons (w_asg (w_ifE (wt_and (wt_cmp (or_eq hk) cs_eq (w_callB cr_len sn_len (f_len c Y G) rfl (wa_cons (w_var 0) wa_nil)) (w_glo (g_PAIR_nets c Y G))) (wt_and1 (wt_cmp (or_eq hk) cs_eq (w_ix hk (w_var 0) w_int) (w_glo (g_NET c Y G))))).pt (w_call (has_whole_in c Y G) bp_whole_in (hk.mono (by decide)) tk (wa_cons (w_ix hk (w_var 0) w_int) wa_nil)) w_non) (wg_name 1 nd))
    (ws_one (w_ret (w_ifE (wt_truth (w_call (has_is_integer c Y G) bp_is_integer (hk.mono (by decide)) tk (wa_cons (w_var 1) (wa_cons w_int (wa_cons (w_glo (g_MOST_COORDS c Y G)) wa_nil))))) (w_var 1) w_non))))
theorem has_coords_in (c : SaysA cks dfs K) (Y : K.In h) (G : h.Ns mainGlobals mg) : Has R.prog w K mg base "coords_in" (defArgs (top 50)) ["words"] 3 m_coords_in := by
  obtain ⟨fd, F⟩ := fd_coords_in c
  exact ⟨⟨_, fd, _, _, _, ckG_ok Y G (c.ck 67 (f := ckG "coords_in")), wk_coords_in c Y G F, F⟩⟩
theorem fd_Drafts_u_init_u (c : SaysA cks dfs K) : ∃ fd, FunD K "__init__" "Drafts.__init__" (defArgs (memS (top 52) 1)) (defBody (memS (top 52) 1)) (defScope (memS (top 52) 1)) [] [] (atM "Drafts" "__init__" K) fd := c.df 29 (d := d_Drafts_u_init_u)
theorem wk_Drafts_u_init_u (c : SaysA cks dfs K) (Y : K.In h) (G : h.Ns mainGlobals mg) {fd : FuncData} (F : FunD K "__init__" "Drafts.__init__" (defArgs (memS (top 52) 1)) (defBody (memS (top 52) 1)) (defScope (memS (top 52) 1)) [] [] (atM "Drafts" "__init__" K) fd) : FnG R.prog w K mg base 1 (atM "Drafts" "__init__" K) fd ["self", "coords"] (spOf K ["self", "coords"].length m_Drafts_u_init_u) :=
  fnG_mk (k := 0) F sc_Drafts_u_init_u fun cdv A outer s H E hk tk po => by
  have nd := sc_Drafts_u_init_u.nd
  unfold b_Drafts_u_init_u
  exact (ws_cons (w_asg (w_var 1) (wg_slot (s_Drafts_own_coords c) (w_var 0)))
    (ws_one (w_asg (w_tup (wa_cons w_dict0 (wa_cons w_dict0 (wa_cons (w_lst true wa_nil) wa_nil)))) (wg_unp rfl (wgs_cons (wg_slot (s_Drafts_own_pegs c) (w_var 0)) (wgs_cons (wg_slot (s_Drafts_own_rings c) (w_var 0)) (wgs_cons (wg_slot (s_Drafts_own_cords c) (w_var 0)) wgs_nil)))))))
theorem has_Drafts_u_init_u (c : SaysA cks dfs K) (Y : K.In h) (G : h.Ns mainGlobals mg) : HasM R.prog w K mg base "Drafts" "__init__" (defArgs (memS (top 52) 1)) ["self", "coords"] 1 m_Drafts_u_init_u := by
  obtain ⟨fd, F⟩ := fd_Drafts_u_init_u c
  exact ⟨ckS_ok (c.ck 103 (f := ckS "Drafts")), ⟨_, fd, _, _, _, ckM_ok (c.ck 116 (f := ckM "Drafts" "__init__")), wk_Drafts_u_init_u c Y G F, F⟩⟩
theorem new_Drafts (c : SaysA cks dfs K) (Y : K.In h) (G : h.Ns mainGlobals mg) : HasC R.prog w K mg base "Drafts" (defArgs (memS (top 52) 1)) ["self", "coords"] 1 m_Drafts_u_init_u := by
  obtain ⟨fd, F⟩ := fd_Drafts_u_init_u c
  exact ⟨ckG_ok Y G (c.ck 102 (f := ckG "Drafts")), ⟨_, fd, _, _, _, ckN_ok (c.ck 114 (f := ckN "Drafts")), wk_Drafts_u_init_u c Y G F, F⟩⟩
theorem fd_common (c : SaysA cks dfs K) : ∃ fd, FunD K "common" "common" (defArgs (top 8)) (defBody (top 8)) (defScope (top 8)) [] [] (atG "common" K) fd := c.df 30 (d := d_common)
theorem wk_common (c : SaysA cks dfs K) (Y : K.In h) (G : h.Ns mainGlobals mg) {fd : FuncData} (F : FunD K "common" "common" (defArgs (top 8)) (defBody (top 8)) (defScope (top 8)) [] [] (atG "common" K) fd) : FnG R.prog w K mg base 1 (atG "common" K) fd ["one", "other"] (spOf K ["one", "other"].length m_common) :=
  fnG_mk (k := 0) F sc_common fun cdv A outer s H E hk tk po => by
  have nd := sc_common.nd
  unfold b_common
  exact (ws_cons (w_par rfl nd (wa_cons (w_callB call_abs sn_abs (f_abs c Y G) rfl (wa_cons (w_var 0) wa_nil)) (wa_cons (w_callB call_abs sn_abs (f_abs c Y G) rfl (wa_cons (w_var 1) wa_nil)) wa_nil)))
    (ws_cons (w_while po (wt_cmp op_gt cs_int (w_var 1) w_int) (ws_one (w_par rfl nd (wa_cons (w_var 1) (wa_cons (w_bin op_mod sn_mod (w_var 0) (w_var 1)) wa_nil)))))
    (ws_one (w_ret (w_var 0)))))
theorem has_common (c : SaysA cks dfs K) (Y : K.In h) (G : h.Ns mainGlobals mg) : Has R.prog w K mg base "common" (defArgs (top 8)) ["one", "other"] 1 m_common := by
  obtain ⟨fd, F⟩ := fd_common c
  exact ⟨⟨_, fd, _, _, _, ckG_ok Y G (c.ck 68 (f := ckG "common")), wk_common c Y G F, F⟩⟩
theorem fd_is_ratio (c : SaysA cks dfs K) : ∃ fd, FunD K "is_ratio" "is_ratio" (defArgs (top 16)) (defBody (top 16)) (defScope (top 16)) [] [] (atG "is_ratio" K) fd := c.df 31 (d := d_is_ratio)
theorem wk_is_ratio (c : SaysA cks dfs K) (Y : K.In h) (G : h.Ns mainGlobals mg) {fd : FuncData} (F : FunD K "is_ratio" "is_ratio" (defArgs (top 16)) (defBody (top 16)) (defScope (top 16)) [] [] (atG "is_ratio" K) fd) : FnG R.prog w K mg base 2 (atG "is_ratio" K) fd ["value"] (spOf K ["value"].length m_is_ratio) :=
  fnG_mk (k := 1) F sc_is_ratio fun cdv A outer s H E hk tk po => by
  have nd := sc_is_ratio.nd
  unfold b_is_ratio
  exact (ws_cons (w_if (wt_or (wt_not (wt_truth (w_isi (U := "tuple") (w_var 0) (by decide) (f_isinstance c Y G) (f_tuple c Y G)))) (wt_or (wt_cmp (or_ne hk) cs_ne (w_callB cr_len sn_len (f_len c Y G) rfl (wa_cons (w_var 0) wa_nil)) (w_glo (g_PAIR_ratios c Y G))) (wt_or1 (wt_not (wt_truth (w_callB (cr_all rfl) sn_all (f_all c Y G) rfl (wa_cons (w_lc (own := [("one", 1)]) rfl nd (w_seq (w_var 0)) (blkOk_by (by kernel_rfl)) (fun _ _ _ _ _ => (wgw_name 1 nd)) (fun _ _ _ _ _ => wts_nil) (fun _ _ _ _ _ => (w_call (has_is_whole c Y G) bp_is_whole ((Here.blk hk _ _ _ _ _).mono (by decide)) takes_none (wa_cons (w_var 1) wa_nil)))) wa_nil))))))).pt (ws_one (w_ret w_bl)) ws_nil)
    (ws_one (w_ret (w_and (w_cmp op_ge cs_int (w_ix hk (w_var 0) w_int) w_int) (w_one (w_cmp (or_eq hk) cs_eq (w_call (has_common c Y G) bp_common (hk.mono (by decide)) tk (wa_cons (w_ix hk (w_var 0) w_int) (wa_cons (w_ix hk (w_var 0) w_int) wa_nil))) w_int))))))
theorem has_is_ratio (c : SaysA cks dfs K) (Y : K.In h) (G : h.Ns mainGlobals mg) : Has R.prog w K mg base "is_ratio" (defArgs (top 16)) ["value"] 2 m_is_ratio := by
  obtain ⟨fd, F⟩ := fd_is_ratio c
  exact ⟨⟨_, fd, _, _, _, ckG_ok Y G (c.ck 69 (f := ckG "is_ratio")), wk_is_ratio c Y G F, F⟩⟩
theorem fd_ratio_in (c : SaysA cks dfs K) : ∃ fd, FunD K "ratio_in" "ratio_in" (defArgs (top 19)) (defBody (top 19)) (defScope (top 19)) [] [] (atG "ratio_in" K) fd := c.df 32 (d := d_ratio_in)
theorem wk_ratio_in (c : SaysA cks dfs K) (Y : K.In h) (G : h.Ns mainGlobals mg) {fd : FuncData} (F : FunD K "ratio_in" "ratio_in" (defArgs (top 19)) (defBody (top 19)) (defScope (top 19)) [] [] (atG "ratio_in" K) fd) : FnG R.prog w K mg base 3 (atG "ratio_in" K) fd ["word"] (spOf K ["word"].length m_ratio_in) :=
  fnG_mk (k := 2) F sc_ratio_in fun cdv A outer s H E hk tk po => by
  have nd := sc_ratio_in.nd
  unfold b_ratio_in
  exact (ws_cons (w_setLc (k := 1) (own := [("one", 3)]) rfl nd (w_seq (w_split false (w_var 0) (w_glo (g_OVER c Y G)))) (blkOk_by (by kernel_rfl)) (fun _ _ _ _ _ => (wgw_name 3 nd)) (fun _ _ _ _ _ => wts_nil) (fun _ _ _ _ _ => (w_call (has_whole_in c Y G) bp_whole_in ((Here.blk hk _ _ _ _ _).mono (by decide)) takes_none (wa_cons (w_var 3) wa_nil))))
    (ws_cons (w_if (wt_or (wt_cmp (or_in hk) cs_in w_non (w_var 1)) (wt_or1 (wt_cmp op_gt cs_int (w_callB cr_len sn_len (f_len c Y G) rfl (wa_cons (w_var 1) wa_nil)) (w_glo (g_PAIR_ratios c Y G))))).pt (ws_one (w_ret w_non)) ws_nil)
    (ws_cons (w_if (wt_cmp (or_eq hk) cs_eq (w_callB cr_len sn_len (f_len c Y G) rfl (wa_cons (w_var 1) wa_nil)) w_int) (ws_one (w_ret (w_tup (wa_cons (w_ix hk (w_var 1) w_int) (wa_cons w_int wa_nil))))) ws_nil)
    (ws_cons (w_asg (w_tup (wa_cons (w_ix hk (w_var 1) w_int) (wa_cons (w_ix hk (w_var 1) w_int) wa_nil))) (wg_name 2 nd))
    (ws_one (w_ret (w_ifE (wt_and (wt_cmp op_gt cs_int (w_ix hk (w_var 2) w_int) w_int) (wt_and1 (wt_truth (w_call (has_is_ratio c Y G) bp_is_ratio (hk.mono (by decide)) tk (wa_cons (w_var 2) wa_nil))))).pt (w_var 2) w_non)))))))
theorem has_ratio_in (c : SaysA cks dfs K) (Y : K.In h) (G : h.Ns mainGlobals mg) : Has R.prog w K mg base "ratio_in" (defArgs (top 19)) ["word"] 3 m_ratio_in := by
  obtain ⟨fd, F⟩ := fd_ratio_in c
  exact ⟨⟨_, fd, _, _, _, ckG_ok Y G (c.ck 70 (f := ckG "ratio_in")), wk_ratio_in c Y G F, F⟩⟩
theorem fd_is_number (c : SaysA cks dfs K) : ∃ fd, FunD K "is_number" "is_number" (defArgs (top 31)) (defBody (top 31)) (defScope (top 31)) [] [] (atG "is_number" K) fd := c.df 33 (d := d_is_number)
theorem wk_is_number (c : SaysA cks dfs K) (Y : K.In h) (G : h.Ns mainGlobals mg) {fd : FuncData} (F : FunD K "is_number" "is_number" (defArgs (top 31)) (defBody (top 31)) (defScope (top 31)) [] [] (atG "is_number" K) fd) : FnG R.prog w K mg base 3 (atG "is_number" K) fd ["value"] (spOf K ["value"].length m_is_number) :=
  fnG_mk (k := 2) F sc_is_number fun cdv A outer s H E hk tk po => by
  have nd := sc_is_number.nd
  unfold b_is_number
  exact (ws_one (w_ret (w_and (w_call (has_is_ratio c Y G) bp_is_ratio (hk.mono (by decide)) tk (wa_cons (w_var 0) wa_nil)) (w_and (w_cmp op_le cs_int (w_callB call_abs sn_abs (f_abs c Y G) rfl (wa_cons (w_ix hk (w_var 0) w_int) wa_nil)) (w_glo (g_MOST_TOP c Y G))) (w_one (w_cmp op_le cs_int (w_ix hk (w_var 0) w_int) (w_glo (g_MOST_BOTTOM c Y G))))))))
theorem has_is_number (c : SaysA cks dfs K) (Y : K.In h) (G : h.Ns mainGlobals mg) : Has R.prog w K mg base "is_number" (defArgs (top 31)) ["value"] 3 m_is_number := by
  obtain ⟨fd, F⟩ := fd_is_number c
  exact ⟨⟨_, fd, _, _, _, ckG_ok Y G (c.ck 71 (f := ckG "is_number")), wk_is_number c Y G F, F⟩⟩
theorem fd_numbers_in (c : SaysA cks dfs K) : ∃ fd, FunD K "numbers_in" "numbers_in" (defArgs (top 51)) (defBody (top 51)) (defScope (top 51)) [] [] (atG "numbers_in" K) fd := c.df 34 (d := d_numbers_in)
theorem wk_numbers_in (c : SaysA cks dfs K) (Y : K.In h) (G : h.Ns mainGlobals mg) {fd : FuncData} (F : FunD K "numbers_in" "numbers_in" (defArgs (top 51)) (defBody (top 51)) (defScope (top 51)) [] [] (atG "numbers_in" K) fd) : FnG R.prog w K mg base 4 (atG "numbers_in" K) fd ["words", "many"] (spOf K ["words", "many"].length m_numbers_in) :=
  fnG_mk (k := 3) F sc_numbers_in fun cdv A outer s H E hk tk po => by
  have nd := sc_numbers_in.nd
  unfold b_numbers_in
  exact (ws_cons (w_setLc (k := 2) (own := [("word", 3)]) rfl nd (w_seq (w_var 0)) (blkOk_by (by kernel_rfl)) (fun _ _ _ _ _ => (wgw_name 3 nd)) (fun _ _ _ _ _ => wts_nil) (fun _ _ _ _ _ => (w_call (has_ratio_in c Y G) bp_ratio_in ((Here.blk hk _ _ _ _ _).mono (by decide)) takes_none (wa_cons (w_var 3) wa_nil))))
    (ws_one (w_ret (w_ifE (wt_and (wt_cmp (or_eq hk) cs_eq (w_callB cr_len sn_len (f_len c Y G) rfl (wa_cons (w_var 2) wa_nil)) (w_var 1)) (wt_and1 (wt_truth (w_callB (cr_all rfl) sn_all (f_all c Y G) rfl (wa_cons (w_lc (own := [("one", 4)]) rfl nd (w_seq (w_var 2)) (blkOk_by (by kernel_rfl)) (fun _ _ _ _ _ => (wgw_name 4 nd)) (fun _ _ _ _ _ => wts_nil) (fun _ _ _ _ _ => (w_call (has_is_number c Y G) bp_is_number ((Here.blk hk _ _ _ _ _).mono (by decide)) takes_none (wa_cons (w_var 4) wa_nil)))) wa_nil))))).pt (w_callTy (cr_tup rfl) sn_tup (f_tuple c Y G) rfl (wa_cons (w_var 2) wa_nil)) w_non))))
theorem has_numbers_in (c : SaysA cks dfs K) (Y : K.In h) (G : h.Ns mainGlobals mg) : Has R.prog w K mg base "numbers_in" (defArgs (top 51)) ["words", "many"] 4 m_numbers_in := by
  obtain ⟨fd, F⟩ := fd_numbers_in c
  exact ⟨⟨_, fd, _, _, _, ckG_ok Y G (c.ck 72 (f := ckG "numbers_in")), wk_numbers_in c Y G F, F⟩⟩
theorem fd_is_name (c : SaysA cks dfs K) : ∃ fd, FunD K "is_name" "is_name" (defArgs (top 30)) (defBody (top 30)) (defScope (top 30)) [] [] (atG "is_name" K) fd := c.df 35 (d := d_is_name)
theorem wk_is_name (c : SaysA cks dfs K) (Y : K.In h) (G : h.Ns mainGlobals mg) {fd : FuncData} (F : FunD K "is_name" "is_name" (defArgs (top 30)) (defBody (top 30)) (defScope (top 30)) [] [] (atG "is_name" K) fd) : FnG R.prog w K mg base 1 (atG "is_name" K) fd ["value"] (spOf K ["value"].length m_is_name) :=
  fnG_mk (k := 0) F sc_is_name fun cdv A outer s H E hk tk po => by
  have nd := sc_is_name.nd
  unfold b_is_name
  exact (ws_one (w_ret (w_and (w_isi (U := "str") (w_var 0) (by decide) (f_isinstance c Y G) (f_str c Y G)) (w_and (w_chain op_le cs_int op_le cs_int w_int (w_callB cr_len sn_len (f_len c Y G) rfl (wa_cons (w_var 0) wa_nil)) (w_glo (g_MOST_SIGNS c Y G))) (w_one (w_callB (cr_all rfl) sn_all (f_all c Y G) rfl (wa_cons (w_lc (own := [("sign", 1)]) rfl nd (w_seq (w_var 0)) (blkOk_by (by kernel_rfl)) (fun _ _ _ _ _ => (wgw_name 1 nd)) (fun _ _ _ _ _ => wts_nil) (fun _ _ _ _ _ => (w_cmp (or_in (Here.blk hk _ _ _ _ _)) cs_in (w_var 1) (w_glo (g_SIGNS c Y G))))) wa_nil)))))))
theorem has_is_name (c : SaysA cks dfs K) (Y : K.In h) (G : h.Ns mainGlobals mg) : Has R.prog w K mg base "is_name" (defArgs (top 30)) ["value"] 1 m_is_name := by
  obtain ⟨fd, F⟩ := fd_is_name c
  exact ⟨⟨_, fd, _, _, _, ckG_ok Y G (c.ck 73 (f := ckG "is_name")), wk_is_name c Y G F, F⟩⟩
theorem fd_Drafts_is_new (c : SaysA cks dfs K) : ∃ fd, FunD K "is_new" "Drafts.is_new" (defArgs (memS (top 52) 3)) (defBody (memS (top 52) 3)) (defScope (memS (top 52) 3)) [] [] (atM "Drafts" "is_new" K) fd := c.df 36 (d := d_Drafts_is_new)
theorem wk_Drafts_is_new (c : SaysA cks dfs K) (Y : K.In h) (G : h.Ns mainGlobals mg) {fd : FuncData} (F : FunD K "is_new" "Drafts.is_new" (defArgs (memS (top 52) 3)) (defBody (memS (top 52) 3)) (defScope (memS (top 52) 3)) [] [] (atM "Drafts" "is_new" K) fd) : FnG R.prog w K mg base 2 (atM "Drafts" "is_new" K) fd ["self", "name"] (spOf K ["self", "name"].length m_Drafts_is_new) :=
  fnG_mk (k := 1) F sc_Drafts_is_new fun cdv A outer s H E hk tk po => by
  have nd := sc_Drafts_is_new.nd
  unfold b_Drafts_is_new
  exact (ws_one (w_ret (w_and (w_call (has_is_name c Y G) bp_is_name (hk.mono (by decide)) tk (wa_cons (w_var 1) wa_nil)) (w_and (w_cmp (or_notin hk) cs_notin (w_var 1) (w_slot (s_Drafts_own_pegs c) (w_var 0))) (w_one (w_cmp (or_notin hk) cs_notin (w_var 1) (w_slot (s_Drafts_own_rings c) (w_var 0))))))))
theorem has_Drafts_is_new (c : SaysA cks dfs K) (Y : K.In h) (G : h.Ns mainGlobals mg) : HasM R.prog w K mg base "Drafts" "is_new" (defArgs (memS (top 52) 3)) ["self", "name"] 2 m_Drafts_is_new := by
  obtain ⟨fd, F⟩ := fd_Drafts_is_new c
  exact ⟨ckS_ok (c.ck 103 (f := ckS "Drafts")), ⟨_, fd, _, _, _, ckM_ok (c.ck 117 (f := ckM "Drafts" "is_new")), wk_Drafts_is_new c Y G F, F⟩⟩
theorem fd_Drafts_put_peg (c : SaysA cks dfs K) : ∃ fd, FunD K "put_peg" "Drafts.put_peg" (defArgs (memS (top 52) 4)) (defBody (memS (top 52) 4)) (defScope (memS (top 52) 4)) [] [] (atM "Drafts" "put_peg" K) fd := c.df 37 (d := d_Drafts_put_peg)
theorem wk_Drafts_put_peg (c : SaysA cks dfs K) (Y : K.In h) (G : h.Ns mainGlobals mg) {fd : FuncData} (F : FunD K "put_peg" "Drafts.put_peg" (defArgs (memS (top 52) 4)) (defBody (memS (top 52) 4)) (defScope (memS (top 52) 4)) [] [] (atM "Drafts" "put_peg" K) fd) : FnG R.prog w K mg base 5 (atM "Drafts" "put_peg" K) fd ["self", "words"] (spOf K ["self", "words"].length m_Drafts_put_peg) :=
  fnG_mk (k := 4) F sc_Drafts_put_peg fun cdv A outer s H E hk tk po => by
  have nd := sc_Drafts_put_peg.nd
  unfold b_Drafts_put_peg
  exact (ws_cons (w_asg (w_call (has_numbers_in c Y G) bp_numbers_in (hk.mono (by decide)) tk (wa_cons (w_slice false (w_var 1) (wo_some (w_glo (g_PAIR_nets c Y G))) wo_none) (wa_cons (w_slot (s_Drafts_own_coords c) (w_var 0)) wa_nil))) (wg_name 2 nd))
    (ws_cons (w_if (wt_or (wt_cmp or_is cs_is (w_var 2) w_non) (wt_or (wt_not (wt_truth (w_meth (has_Drafts_is_new c Y G) bp_Drafts_is_new (hk.mono (by decide)) tk (w_var 0) (wa_cons (w_ix hk (w_var 1) w_int) wa_nil)))) (wt_or (wt_cmp (op_neD0 hk) cs_eqD0 (w_slot (s_Drafts_own_rings c) (w_var 0)) w_dict0) (wt_or1 (wt_cmp (or_ne hk) cs_ne (w_slot (s_Drafts_own_cords c) (w_var 0)) (w_lst false wa_nil)))))).pt (ws_one (w_ret w_bl)) ws_nil)
    (ws_cons (w_asg (w_var 2) (wg_sub hk (w_slot (s_Drafts_own_pegs c) (w_var 0)) (w_ix hk (w_var 1) w_int)))
    (ws_one (w_ret (w_cmp op_le cs_int (w_callB cr_len sn_len (f_len c Y G) rfl (wa_cons (w_slot (s_Drafts_own_pegs c) (w_var 0)) wa_nil)) (w_glo (g_MOST_PEGS c Y G))))))))
theorem has_Drafts_put_peg (c : SaysA cks dfs K) (Y : K.In h) (G : h.Ns mainGlobals mg) : HasM R.prog w K mg base "Drafts" "put_peg" (defArgs (memS (top 52) 4)) ["self", "words"] 5 m_Drafts_put_peg := by
  obtain ⟨fd, F⟩ := fd_Drafts_put_peg c
  exact ⟨ckS_ok (c.ck 103 (f := ckS "Drafts")), ⟨_, fd, _, _, _, ckM_ok (c.ck 118 (f := ckM "Drafts" "put_peg")), wk_Drafts_put_peg c Y G F, F⟩⟩
theorem fd_Drafts_put_ring (c : SaysA cks dfs K) : ∃ fd, FunD K "put_ring" "Drafts.put_ring" (defArgs (memS (top 52) 5)) (defBody (memS (top 52) 5)) (defScope (memS (top 52) 5)) [] [] (atM "Drafts" "put_ring" K) fd := c.df 38 (d := d_Drafts_put_ring)
theorem wk_Drafts_put_ring (c : SaysA cks dfs K) (Y : K.In h) (G : h.Ns mainGlobals mg) {fd : FuncData} (F : FunD K "put_ring" "Drafts.put_ring" (defArgs (memS (top 52) 5)) (defBody (memS (top 52) 5)) (defScope (memS (top 52) 5)) [] [] (atM "Drafts" "put_ring" K) fd) : FnG R.prog w K mg base 5 (atM "Drafts" "put_ring" K) fd ["self", "words"] (spOf K ["self", "words"].length m_Drafts_put_ring) :=
  fnG_mk (k := 4) F sc_Drafts_put_ring fun cdv A outer s H E hk tk po => by
  have nd := sc_Drafts_put_ring.nd
  unfold b_Drafts_put_ring
  exact (ws_cons (w_asg (w_call (has_numbers_in c Y G) bp_numbers_in (hk.mono (by decide)) tk (wa_cons (w_slice false (w_var 1) (wo_some (w_glo (g_PAIR_nets c Y G))) wo_none) (wa_cons (w_bin or_mul sn_mul (w_glo (g_PAIR_nets c Y G)) (w_slot (s_Drafts_own_coords c) (w_var 0))) wa_nil))) (wg_name 2 nd))
    (ws_cons (w_if (wt_or (wt_cmp or_is cs_is (w_var 2) w_non) (wt_or (wt_not (wt_truth (w_meth (has_Drafts_is_new c Y G) bp_Drafts_is_new (hk.mono (by decide)) tk (w_var 0) (wa_cons (w_ix hk (w_var 1) w_int) wa_nil)))) (wt_or (wt_cmp (op_eqD0 hk) cs_eqD0 (w_slot (s_Drafts_own_pegs c) (w_var 0)) w_dict0) (wt_or1 (wt_cmp (or_ne hk) cs_ne (w_slot (s_Drafts_own_cords c) (w_var 0)) (w_lst false wa_nil)))))).pt (ws_one (w_ret w_bl)) ws_nil)
    (ws_cons (w_asg (w_tup (wa_cons (w_slice false (w_var 2) wo_none (wo_some (w_slot (s_Drafts_own_coords c) (w_var 0)))) (wa_cons (w_slice false (w_var 2) (wo_some (w_slot (s_Drafts_own_coords c) (w_var 0))) wo_none) wa_nil))) (wg_sub hk (w_slot (s_Drafts_own_rings c) (w_var 0)) (w_ix hk (w_var 1) w_int)))
    (ws_one (w_ret (w_cmp op_le cs_int (w_callB cr_len sn_len (f_len c Y G) rfl (wa_cons (w_slot (s_Drafts_own_rings c) (w_var 0)) wa_nil)) (w_glo (g_MOST_RINGS c Y G))))))))
theorem has_Drafts_put_ring (c : SaysA cks dfs K) (Y : K.In h) (G : h.Ns mainGlobals mg) : HasM R.prog w K mg base "Drafts" "put_ring" (defArgs (memS (top 52) 5)) ["self", "words"] 5 m_Drafts_put_ring := by
  obtain ⟨fd, F⟩ := fd_Drafts_put_ring c
  exact ⟨ckS_ok (c.ck 103 (f := ckS "Drafts")), ⟨_, fd, _, _, _, ckM_ok (c.ck 119 (f := ckM "Drafts" "put_ring")), wk_Drafts_put_ring c Y G F, F⟩⟩
theorem fd_Drafts_place (c : SaysA cks dfs K) : ∃ fd, FunD K "place" "Drafts.place" (defArgs (memS (top 52) 2)) (defBody (memS (top 52) 2)) (defScope (memS (top 52) 2)) [] [] (atM "Drafts" "place" K) fd := c.df 39 (d := d_Drafts_place)
theorem wk_Drafts_place (c : SaysA cks dfs K) (Y : K.In h) (G : h.Ns mainGlobals mg) {fd : FuncData} (F : FunD K "place" "Drafts.place" (defArgs (memS (top 52) 2)) (defBody (memS (top 52) 2)) (defScope (memS (top 52) 2)) [] [] (atM "Drafts" "place" K) fd) : FnG R.prog w K mg base 1 (atM "Drafts" "place" K) fd ["self", "name"] (spOf K ["self", "name"].length m_Drafts_place) :=
  fnG_mk (k := 0) F sc_Drafts_place fun cdv A outer s H E hk tk po => by
  have nd := sc_Drafts_place.nd
  unfold b_Drafts_place
  exact (ws_one (w_ret (w_ifE (wt_cmp (or_in hk) cs_in (w_var 1) (w_slot (s_Drafts_own_pegs c) (w_var 0))) (w_ix hk (w_slot (s_Drafts_own_pegs c) (w_var 0)) (w_var 1)) (w_ix hk (w_ix hk (w_slot (s_Drafts_own_rings c) (w_var 0)) (w_var 1)) w_int))))
theorem has_Drafts_place (c : SaysA cks dfs K) (Y : K.In h) (G : h.Ns mainGlobals mg) : HasM R.prog w K mg base "Drafts" "place" (defArgs (memS (top 52) 2)) ["self", "name"] 1 m_Drafts_place := by
  obtain ⟨fd, F⟩ := fd_Drafts_place c
  exact ⟨ckS_ok (c.ck 103 (f := ckS "Drafts")), ⟨_, fd, _, _, _, ckM_ok (c.ck 120 (f := ckM "Drafts" "place")), wk_Drafts_place c Y G F, F⟩⟩
theorem fd_Drafts_put_cord (c : SaysA cks dfs K) : ∃ fd, FunD K "put_cord" "Drafts.put_cord" (defArgs (memS (top 52) 6)) (defBody (memS (top 52) 6)) (defScope (memS (top 52) 6)) [] [] (atM "Drafts" "put_cord" K) fd := c.df 40 (d := d_Drafts_put_cord)
theorem wk_Drafts_put_cord (c : SaysA cks dfs K) (Y : K.In h) (G : h.Ns mainGlobals mg) {fd : FuncData} (F : FunD K "put_cord" "Drafts.put_cord" (defArgs (memS (top 52) 6)) (defBody (memS (top 52) 6)) (defScope (memS (top 52) 6)) [] [] (atM "Drafts" "put_cord" K) fd) : FnG R.prog w K mg base 2 (atM "Drafts" "put_cord" K) fd ["self", "words"] (spOf K ["self", "words"].length m_Drafts_put_cord) :=
  fnG_mk (k := 1) F sc_Drafts_put_cord fun cdv A outer s H E hk tk po => by
  have nd := sc_Drafts_put_cord.nd
  unfold b_Drafts_put_cord
  exact (ws_cons (w_asg (w_callTy (cr_tup rfl) sn_tup (f_tuple c Y G) rfl (wa_cons (w_slice false (w_var 1) (wo_some w_int) wo_none) wa_nil)) (wg_name 2 nd))
    (ws_cons (w_if (wt_or (wt_cmp (or_ne hk) cs_ne (w_callB cr_len sn_len (f_len c Y G) rfl (wa_cons (w_var 2) wa_nil)) (w_glo (g_PAIR_nets c Y G))) (wt_or1 (wt_not (wt_truth (w_callB (cr_all rfl) sn_all (f_all c Y G) rfl (wa_cons (w_lc (own := [("end", 3)]) rfl nd (w_seq (w_var 2)) (blkOk_by (by kernel_rfl)) (fun _ _ _ _ _ => (wgw_name 3 nd)) (fun _ _ _ _ _ => wts_nil) (fun _ _ _ _ _ => (w_or (w_cmp (or_in (Here.blk hk _ _ _ _ _)) cs_in (w_var 3) (w_slot (s_Drafts_own_pegs c) (w_var 0))) (w_one (w_cmp (or_in (Here.blk hk _ _ _ _ _)) cs_in (w_var 3) (w_slot (s_Drafts_own_rings c) (w_var 0))))))) wa_nil)))))).pt (ws_one (w_ret w_bl)) ws_nil)
    (ws_cons (w_if (wt_or (wt_cmp (or_eq hk) cs_eq (w_meth (has_Drafts_place c Y G) bp_Drafts_place (hk.mono (by decide)) tk (w_var 0) (wa_cons (w_ix hk (w_var 2) w_int) wa_nil)) (w_meth (has_Drafts_place c Y G) bp_Drafts_place (hk.mono (by decide)) tk (w_var 0) (wa_cons (w_ix hk (w_var 2) w_int) wa_nil))) (wt_or1 (wt_not (wt_truth (w_callB (cr_any rfl) sn_any (f_any c Y G) rfl (wa_cons (w_lc (own := [("end", 3)]) rfl nd (w_seq (w_var 2)) (blkOk_by (by kernel_rfl)) (fun _ _ _ _ _ => (wgw_name 3 nd)) (fun _ _ _ _ _ => wts_nil) (fun _ _ _ _ _ => (w_cmp (or_in (Here.blk hk _ _ _ _ _)) cs_in (w_var 3) (w_slot (s_Drafts_own_rings c) (w_var 0))))) wa_nil)))))).pt (ws_one (w_ret w_bl)) ws_nil)
    (ws_cons (w_if (wt_or (wt_cmp (or_in hk) cs_in (w_var 2) (w_slot (s_Drafts_own_cords c) (w_var 0))) (wt_or1 (wt_cmp (or_in hk) cs_in (w_rev (w_var 2)) (w_slot (s_Drafts_own_cords c) (w_var 0))))).pt (ws_one (w_ret w_bl)) ws_nil)
    (ws_cons (w_expr (w_bm PySem.F.plainAttrs_list PySem.F.slot_list_append PySem.F.type_list_append mt_append sn_append (w_slot (s_Drafts_own_cords c) (w_var 0)) (wa_cons (w_var 2) wa_nil)))
    (ws_one (w_ret (w_cmp op_le cs_int (w_callB cr_len sn_len (f_len c Y G) rfl (wa_cons (w_slot (s_Drafts_own_cords c) (w_var 0)) wa_nil)) (w_glo (g_MOST_CORDS c Y G))))))))))
theorem has_Drafts_put_cord (c : SaysA cks dfs K) (Y : K.In h) (G : h.Ns mainGlobals mg) : HasM R.prog w K mg base "Drafts" "put_cord" (defArgs (memS (top 52) 6)) ["self", "words"] 2 m_Drafts_put_cord := by
  obtain ⟨fd, F⟩ := fd_Drafts_put_cord c
  exact ⟨ckS_ok (c.ck 103 (f := ckS "Drafts")), ⟨_, fd, _, _, _, ckM_ok (c.ck 121 (f := ckM "Drafts" "put_cord")), wk_Drafts_put_cord c Y G F, F⟩⟩
theorem fd_Drafts_put (c : SaysA cks dfs K) : ∃ fd, FunD K "put" "Drafts.put" (defArgs (memS (top 52) 7)) (defBody (memS (top 52) 7)) (defScope (memS (top 52) 7)) [] [] (atM "Drafts" "put" K) fd := c.df 41 (d := d_Drafts_put)
theorem wk_Drafts_put (c : SaysA cks dfs K) (Y : K.In h) (G : h.Ns mainGlobals mg) {fd : FuncData} (F : FunD K "put" "Drafts.put" (defArgs (memS (top 52) 7)) (defBody (memS (top 52) 7)) (defScope (memS (top 52) 7)) [] [] (atM "Drafts" "put" K) fd) : FnG R.prog w K mg base 6 (atM "Drafts" "put" K) fd ["self", "words"] (spOf K ["self", "words"].length m_Drafts_put) :=
  fnG_mk (k := 5) F sc_Drafts_put fun cdv A outer s H E hk tk po => by
  have nd := sc_Drafts_put.nd
  unfold b_Drafts_put
  exact (ws_cons (w_if (wt_cmp (or_eq hk) cs_eq (w_ix hk (w_var 1) w_int) (w_glo (g_PEG c Y G))) (ws_one (w_ret (w_and (w_cmp op_gt cs_int (w_callB cr_len sn_len (f_len c Y G) rfl (wa_cons (w_var 1) wa_nil)) w_int) (w_one (w_meth (has_Drafts_put_peg c Y G) bp_Drafts_put_peg (hk.mono (by decide)) tk (w_var 0) (wa_cons (w_var 1) wa_nil)))))) ws_nil)
    (ws_cons (w_if (wt_cmp (or_eq hk) cs_eq (w_ix hk (w_var 1) w_int) (w_glo (g_RING c Y G))) (ws_one (w_ret (w_and (w_cmp op_gt cs_int (w_callB cr_len sn_len (f_len c Y G) rfl (wa_cons (w_var 1) wa_nil)) w_int) (w_one (w_meth (has_Drafts_put_ring c Y G) bp_Drafts_put_ring (hk.mono (by decide)) tk (w_var 0) (wa_cons (w_var 1) wa_nil)))))) ws_nil)
    (ws_one (w_ret (w_and (w_cmp (or_eq hk) cs_eq (w_ix hk (w_var 1) w_int) (w_glo (g_CORD c Y G))) (w_one (w_meth (has_Drafts_put_cord c Y G) bp_Drafts_put_cord (hk.mono (by decide)) tk (w_var 0) (wa_cons (w_var 1) wa_nil))))))))
theorem has_Drafts_put (c : SaysA cks dfs K) (Y : K.In h) (G : h.Ns mainGlobals mg) : HasM R.prog w K mg base "Drafts" "put" (defArgs (memS (top 52) 7)) ["self", "words"] 6 m_Drafts_put := by
  obtain ⟨fd, F⟩ := fd_Drafts_put c
  exact ⟨ckS_ok (c.ck 103 (f := ckS "Drafts")), ⟨_, fd, _, _, _, ckM_ok (c.ck 122 (f := ckM "Drafts" "put")), wk_Drafts_put c Y G F, F⟩⟩
theorem fd_drafts_of (c : SaysA cks dfs K) : ∃ fd, FunD K "drafts_of" "drafts_of" (defArgs (top 53)) (defBody (top 53)) (defScope (top 53)) [] [] (atG "drafts_of" K) fd := c.df 42 (d := d_drafts_of)
theorem wk_drafts_of (c : SaysA cks dfs K) (Y : K.In h) (G : h.Ns mainGlobals mg) {fd : FuncData} (F : FunD K "drafts_of" "drafts_of" (defArgs (top 53)) (defBody (top 53)) (defScope (top 53)) [] [] (atG "drafts_of" K) fd) : FnG R.prog w K mg base 7 (atG "drafts_of" K) fd ["text"] (spOf K ["text"].length m_drafts_of) :=
  fnG_mk (k := 6) F sc_drafts_of fun cdv A outer s H E hk tk po => by
  have nd := sc_drafts_of.nd
  unfold b_drafts_of
  exact (ws_cons (w_asg (w_call (has_lines_of c Y G) bp_lines_of (hk.mono (by decide)) tk (wa_cons (w_var 0) wa_nil)) (wg_name 1 nd))
    (ws_cons (w_asg (w_call (has_coords_in c Y G) bp_coords_in (hk.mono (by decide)) tk (wa_cons (w_ix hk (w_var 1) w_int) wa_nil)) (wg_name 2 nd))
    (ws_cons (w_if (wt_cmp or_is cs_is (w_var 2) w_non) (ws_one w_never) ws_nil)
    (ws_cons (w_asg (w_new (new_Drafts c Y G) bp_Drafts_u_init_u (hk.mono (by decide)) tk (wa_cons (w_var 2) wa_nil)) (wg_name 3 nd))
    (ws_cons (w_for po rfl (w_enum (f_enumerate c Y G) (wa_cons (w_slice false (w_var 1) (wo_some w_int) wo_none) wa_nil)) (wg_tup rfl (wgs_cons (wg_name 4 nd) (wgs_cons (wg_name 5 nd) wgs_nil))) (ws_one (w_if (wt_not (wt_truth (w_meth (has_Drafts_put c Y G) bp_Drafts_put (hk.mono (by decide)) tk (w_var 3) (wa_cons (w_var 5) wa_nil)))) (ws_one w_never) ws_nil)))
    (ws_cons (w_if (wt_cmp (op_eqD0 hk) cs_eqD0 (w_slot (s_Drafts_own_pegs c) (w_var 3)) w_dict0) (ws_one w_never) ws_nil)
    (ws_one (w_ret (w_var 3)))))))))
theorem has_drafts_of (c : SaysA cks dfs K) (Y : K.In h) (G : h.Ns mainGlobals mg) : Has R.prog w K mg base "drafts_of" (defArgs (top 53)) ["text"] 7 m_drafts_of := by
  obtain ⟨fd, F⟩ := fd_drafts_of c
  exact ⟨⟨_, fd, _, _, _, ckG_ok Y G (c.ck 74 (f := ckG "drafts_of")), wk_drafts_of c Y G F, F⟩⟩
theorem fd_Net_u_init_u (c : SaysA cks dfs K) : ∃ fd, FunD K "__init__" "Net.__init__" (defArgs (memS (top 54) 1)) (defBody (memS (top 54) 1)) (defScope (memS (top 54) 1)) [] [] (atM "Net" "__init__" K) fd := c.df 43 (d := d_Net_u_init_u)
theorem wk_Net_u_init_u (c : SaysA cks dfs K) (Y : K.In h) (G : h.Ns mainGlobals mg) {fd : FuncData} (F : FunD K "__init__" "Net.__init__" (defArgs (memS (top 54) 1)) (defBody (memS (top 54) 1)) (defScope (memS (top 54) 1)) [] [] (atM "Net" "__init__" K) fd) : FnG R.prog w K mg base 8 (atM "Net" "__init__" K) fd ["self", "text"] (spOf K ["self", "text"].length m_Net_u_init_u) :=
  fnG_mk (k := 7) F sc_Net_u_init_u fun cdv A outer s H E hk tk po => by
  have nd := sc_Net_u_init_u.nd
  unfold b_Net_u_init_u
  exact (ws_cons (w_if (wt_not (wt_truth (w_isi (U := "str") (w_var 1) (by decide) (f_isinstance c Y G) (f_str c Y G)))) (ws_one w_never) ws_nil)
    (ws_cons (w_asg (w_tup (wa_cons (w_call (has_drafts_of c Y G) bp_drafts_of (hk.mono (by decide)) tk (wa_cons (w_var 1) wa_nil)) (wa_cons (w_var 1) wa_nil))) (wg_unp rfl (wgs_cons (wg_slot (s_Net_own_drafts c) (w_var 0)) (wgs_cons (wg_slot (s_Net_own_text c) (w_var 0)) wgs_nil))))
    (ws_one (w_asg (w_tup (wa_cons (w_callTy (cr_tup rfl) sn_tup (f_tuple c Y G) rfl (wa_cons (w_slot (s_Drafts_own_cords c) (w_slot (s_Net_own_drafts c) (w_var 0))) wa_nil)) (wa_cons w_dict0 wa_nil))) (wg_unp rfl (wgs_cons (wg_slot (s_Net_own_cords c) (w_var 0)) (wgs_cons (wg_slot (s_Net_own_kept c) (w_var 0)) wgs_nil)))))))
theorem has_Net_u_init_u (c : SaysA cks dfs K) (Y : K.In h) (G : h.Ns mainGlobals mg) : HasM R.prog w K mg base "Net" "__init__" (defArgs (memS (top 54) 1)) ["self", "text"] 8 m_Net_u_init_u := by
  obtain ⟨fd, F⟩ := fd_Net_u_init_u c
  exact ⟨ckS_ok (c.ck 105 (f := ckS "Net")), ⟨_, fd, _, _, _, ckM_ok (c.ck 123 (f := ckM "Net" "__init__")), wk_Net_u_init_u c Y G F, F⟩⟩
theorem new_Net (c : SaysA cks dfs K) (Y : K.In h) (G : h.Ns mainGlobals mg) : HasC R.prog w K mg base "Net" (defArgs (memS (top 54) 1)) ["self", "text"] 8 m_Net_u_init_u := by
  obtain ⟨fd, F⟩ := fd_Net_u_init_u c
  exact ⟨ckG_ok Y G (c.ck 104 (f := ckG "Net")), ⟨_, fd, _, _, _, ckN_ok (c.ck 115 (f := ckN "Net")), wk_Net_u_init_u c Y G F, F⟩⟩
theorem fd__law_frac_text (c : SaysA cks dfs K) : ∃ fd, FunD K "_law_frac_text" "_law_frac_text" (defArgs (top 77)) (defBody (top 77)) (defScope (top 77)) [] [] (atG "_law_frac_text" K) fd := c.df 44 (d := d__law_frac_text)
theorem wk__law_frac_text (c : SaysA cks dfs K) (Y : K.In h) (G : h.Ns mainGlobals mg) {fd : FuncData} (F : FunD K "_law_frac_text" "_law_frac_text" (defArgs (top 77)) (defBody (top 77)) (defScope (top 77)) [] [] (atG "_law_frac_text" K) fd) : FnG R.prog w K mg base 1 (atG "_law_frac_text" K) fd ["one"] (spOf K ["one"].length m__law_frac_text) :=
  fnG_mk (k := 0) F sc__law_frac_text fun cdv A outer s H E hk tk po => by
  have nd := sc__law_frac_text.nd
  unfold b__law_frac_text
  exact (ws_one (w_ret (w_ifE (wt_cmp (or_eq hk) cs_eq (w_ix hk (w_var 0) w_int) w_int) (w_callTy cr_str sn_str (f_str c Y G) rfl (wa_cons (w_callTy cr_int sn_intc (f_int c Y G) rfl (wa_cons (w_ix hk (w_var 0) w_int) wa_nil)) wa_nil)) (w_bin or_add (sn_add (b := false)) (w_bin or_add (sn_add (b := false)) (w_callTy cr_str sn_str (f_str c Y G) rfl (wa_cons (w_callTy cr_int sn_intc (f_int c Y G) rfl (wa_cons (w_ix hk (w_var 0) w_int) wa_nil)) wa_nil)) w_str) (w_callTy cr_str sn_str (f_str c Y G) rfl (wa_cons (w_callTy cr_int sn_intc (f_int c Y G) rfl (wa_cons (w_ix hk (w_var 0) w_int) wa_nil)) wa_nil))))))
theorem has__law_frac_text (c : SaysA cks dfs K) (Y : K.In h) (G : h.Ns mainGlobals mg) : Has R.prog w K mg base "_law_frac_text" (defArgs (top 77)) ["one"] 1 m__law_frac_text := by
  obtain ⟨fd, F⟩ := fd__law_frac_text c
  exact ⟨⟨_, fd, _, _, _, ckG_ok Y G (c.ck 75 (f := ckG "_law_frac_text")), wk__law_frac_text c Y G F, F⟩⟩
theorem fd__law_net_text (c : SaysA cks dfs K) : ∃ fd, FunD K "_law_net_text" "_law_net_text" (defArgs (top 81)) (defBody (top 81)) (defScope (top 81)) [] [] (atG "_law_net_text" K) fd := c.df 45 (d := d__law_net_text)
theorem wk__law_net_text (c : SaysA cks dfs K) (Y : K.In h) (G : h.Ns mainGlobals mg) {fd : FuncData} (F : FunD K "_law_net_text" "_law_net_text" (defArgs (top 81)) (defBody (top 81)) (defScope (top 81)) [] [] (atG "_law_net_text" K) fd) : FnG R.prog w K mg base 2 (atG "_law_net_text" K) fd ["own"] (spOf K ["own"].length m__law_net_text) :=
  fnG_mk (k := 1) F sc__law_net_text fun cdv A outer s H E hk tk po => by
  have nd := sc__law_net_text.nd
  unfold b__law_net_text
  exact (ws_cons (w_asg (w_lst true (wa_cons (w_bin or_add (sn_add (b := false)) w_str (w_callTy cr_str sn_str (f_str c Y G) rfl (wa_cons (w_ix hk (w_var 0) w_str) wa_nil))) wa_nil)) (wg_name 1 nd))
    (ws_cons (w_for po rfl (w_seq (w_ix hk (w_var 0) w_str)) (wg_tup rfl (wgs_cons (wg_name 2 nd) (wgs_cons (wg_name 3 nd) wgs_nil))) (ws_one (w_expr (w_bm PySem.F.plainAttrs_list PySem.F.slot_list_append PySem.F.type_list_append mt_append sn_append (w_var 1) (wa_cons (w_join w_str (w_bin or_add (sn_add (b := false)) (w_lst false (wa_cons w_str (wa_cons (w_var 2) wa_nil))) (w_lc (own := [("one", 5)]) rfl nd (w_seq (w_var 3)) (blkOk_by (by kernel_rfl)) (fun _ _ _ _ _ => (wgw_name 5 nd)) (fun _ _ _ _ _ => wts_nil) (fun _ _ _ _ _ => (w_call (has__law_frac_text c Y G) bp__law_frac_text ((Here.blk hk _ _ _ _ _).mono (by decide)) takes_none (wa_cons (w_var 5) wa_nil)))))) wa_nil)))))
    (ws_cons (w_for po rfl (w_seq (w_ix hk (w_var 0) w_str)) (wg_tup rfl (wgs_cons (wg_name 2 nd) (wgs_cons (wg_name 3 nd) (wgs_cons (wg_name 4 nd) wgs_nil)))) (ws_one (w_expr (w_bm PySem.F.plainAttrs_list PySem.F.slot_list_append PySem.F.type_list_append mt_append sn_append (w_var 1) (wa_cons (w_join w_str (w_bin or_add (sn_add (b := false)) (w_lst false (wa_cons w_str (wa_cons (w_var 2) wa_nil))) (w_lc (own := [("one", 5)]) rfl nd (w_seq (w_bin or_add (sn_add (b := false)) (w_var 3) (w_var 4))) (blkOk_by (by kernel_rfl)) (fun _ _ _ _ _ => (wgw_name 5 nd)) (fun _ _ _ _ _ => wts_nil) (fun _ _ _ _ _ => (w_call (has__law_frac_text c Y G) bp__law_frac_text ((Here.blk hk _ _ _ _ _).mono (by decide)) takes_none (wa_cons (w_var 5) wa_nil)))))) wa_nil)))))
    (ws_one (w_ret (w_join w_str (w_bin or_add (sn_add (b := false)) (w_var 1) (w_lc (own := [("one", 5), ("other", 6)]) rfl nd (w_seq (w_ix hk (w_var 0) w_str)) (blkOk_by (by kernel_rfl)) (fun _ _ _ _ _ => (wgw_tup rfl (wgws_cons (wgw_name 5 nd) (wgws_cons (wgw_name 6 nd) wgws_nil)))) (fun _ _ _ _ _ => wts_nil) (fun _ _ _ _ _ => (w_bin or_add (sn_add (b := false)) (w_bin or_add (sn_add (b := false)) (w_bin or_add (sn_add (b := false)) w_str (w_var 5)) w_str) (w_var 6)))))))))))
theorem has__law_net_text (c : SaysA cks dfs K) (Y : K.In h) (G : h.Ns mainGlobals mg) : Has R.prog w K mg base "_law_net_text" (defArgs (top 81)) ["own"] 2 m__law_net_text := by
  obtain ⟨fd, F⟩ := fd__law_net_text c
  exact ⟨⟨_, fd, _, _, _, ckG_ok Y G (c.ck 76 (f := ckG "_law_net_text")), wk__law_net_text c Y G F, F⟩⟩
theorem fd__law_pulls_drawn (c : SaysA cks dfs K) : ∃ fd, FunD K "_law_pulls_drawn" "_law_pulls_drawn" (defArgs (top 94)) (defBody (top 94)) (defScope (top 94)) [] [] (atG "_law_pulls_drawn" K) fd := c.df 46 (d := d__law_pulls_drawn)
theorem wk__law_pulls_drawn (c : SaysA cks dfs K) (Y : K.In h) (G : h.Ns mainGlobals mg) {fd : FuncData} (F : FunD K "_law_pulls_drawn" "_law_pulls_drawn" (defArgs (top 94)) (defBody (top 94)) (defScope (top 94)) [] [] (atG "_law_pulls_drawn" K) fd) : FnG R.prog w K mg base 3 (atG "_law_pulls_drawn" K) fd ["pot", "own"] (spOf K ["pot", "own"].length m__law_pulls_drawn) :=
  fnG_mk (k := 2) F sc__law_pulls_drawn fun cdv A outer s H E hk tk po => by
  have nd := sc__law_pulls_drawn.nd
  unfold b__law_pulls_drawn
  exact (ws_cons (w_asg (w_lst false (wa_cons (w_tup (wa_cons w_int (wa_cons w_int wa_nil))) (wa_cons (w_tup (wa_cons w_int (wa_cons w_int wa_nil))) (wa_cons (w_tup (wa_cons w_int (wa_cons w_int wa_nil))) (wa_cons (w_tup (wa_cons w_int (wa_cons w_int wa_nil))) (wa_cons (w_tup (wa_cons w_int (wa_cons w_int wa_nil))) (wa_cons (w_tup (wa_cons w_int (wa_cons w_int wa_nil))) (wa_cons (w_tup (wa_cons w_int (wa_cons w_int wa_nil))) (wa_cons (w_tup (wa_cons w_int (wa_cons w_int wa_nil))) wa_nil))))))))) (wg_name 2 nd))
    (ws_one (w_ret (w_callTy (cr_tup rfl) sn_tup (f_tuple c Y G) rfl (wa_cons (w_lc (own := [("cord", 3)]) rfl nd (w_seq (w_ix hk (w_var 1) w_str)) (blkOk_by (by kernel_rfl)) (fun _ _ _ _ _ => (wgw_name 3 nd)) (fun _ _ _ _ _ => wts_nil) (fun _ _ _ _ _ => (w_call (has__law_of c Y G) bp__law_of ((Here.blk hk _ _ _ _ _).mono (by decide)) takes_none (wa_cons (w_var 0) (wa_cons (w_var 2) wa_nil))))) wa_nil)))))
theorem has__law_pulls_drawn (c : SaysA cks dfs K) (Y : K.In h) (G : h.Ns mainGlobals mg) : Has R.prog w K mg base "_law_pulls_drawn" (defArgs (top 94)) ["pot", "own"] 3 m__law_pulls_drawn := by
  obtain ⟨fd, F⟩ := fd__law_pulls_drawn c
  exact ⟨⟨_, fd, _, _, _, ckG_ok Y G (c.ck 77 (f := ckG "_law_pulls_drawn")), wk__law_pulls_drawn c Y G F, F⟩⟩
theorem fd_is_tuple (c : SaysA cks dfs K) : ∃ fd, FunD K "is_tuple" "is_tuple" (defArgs (top 28)) (defBody (top 28)) (defScope (top 28)) [] [] (atG "is_tuple" K) fd := c.df 47 (d := d_is_tuple)
theorem wk_is_tuple (c : SaysA cks dfs K) (Y : K.In h) (G : h.Ns mainGlobals mg) {fd : FuncData} (F : FunD K "is_tuple" "is_tuple" (defArgs (top 28)) (defBody (top 28)) (defScope (top 28)) [] [] (atG "is_tuple" K) fd) : FnG R.prog w K mg base 1 (atG "is_tuple" K) fd ["value", "low", "high"] (spOf K ["value", "low", "high"].length m_is_tuple) :=
  fnG_mk (k := 0) F sc_is_tuple fun cdv A outer s H E hk tk po => by
  have nd := sc_is_tuple.nd
  unfold b_is_tuple
  exact (ws_one (w_ret (w_and (w_isi (U := "tuple") (w_var 0) (by decide) (f_isinstance c Y G) (f_tuple c Y G)) (w_one (w_chain op_le cs_int op_le cs_int (w_var 1) (w_callB cr_len sn_len (f_len c Y G) rfl (wa_cons (w_var 0) wa_nil)) (w_var 2))))))
theorem has_is_tuple (c : SaysA cks dfs K) (Y : K.In h) (G : h.Ns mainGlobals mg) : Has R.prog w K mg base "is_tuple" (defArgs (top 28)) ["value", "low", "high"] 1 m_is_tuple := by
  obtain ⟨fd, F⟩ := fd_is_tuple c
  exact ⟨⟨_, fd, _, _, _, ckG_ok Y G (c.ck 78 (f := ckG "is_tuple")), wk_is_tuple c Y G F, F⟩⟩
theorem fd_Net_cords (c : SaysA cks dfs K) : ∃ fd, FunD K "cords" "Net.cords" (defArgs (memS (top 54) 8)) (defBody (memS (top 54) 8)) (defScope (memS (top 54) 8)) [] [] (atP "Net" "cords" K) fd := c.df 48 (d := d_Net_cords)
theorem wk_Net_cords (c : SaysA cks dfs K) (Y : K.In h) (G : h.Ns mainGlobals mg) {fd : FuncData} (F : FunD K "cords" "Net.cords" (defArgs (memS (top 54) 8)) (defBody (memS (top 54) 8)) (defScope (memS (top 54) 8)) [] [] (atP "Net" "cords" K) fd) : FnG R.prog w K mg base 1 (atP "Net" "cords" K) fd ["self"] (spOf K ["self"].length m_Net_cords) :=
  fnG_mk (k := 0) F sc_Net_cords fun cdv A outer s H E hk tk po => by
  have nd := sc_Net_cords.nd
  unfold b_Net_cords
  exact (ws_one (w_ret (w_slot (s_Net_own_cords c) (w_var 0))))
theorem has_Net_cords (c : SaysA cks dfs K) (Y : K.In h) (G : h.Ns mainGlobals mg) : HasP R.prog w K mg base "Net" "cords" (defArgs (memS (top 54) 8)) ["self"] 1 m_Net_cords := by
  obtain ⟨fd, F⟩ := fd_Net_cords c
  obtain ⟨p1, p2, p3, p4⟩ := ckP_ok (c.ck 124 (f := ckP "Net" "cords"))
  exact ⟨ckS_ok (c.ck 105 (f := ckS "Net")), ⟨_, _, fd, _, _, _, p1, p2, p3, p4, wk_Net_cords c Y G F, F⟩⟩
theorem fd_is_rate (c : SaysA cks dfs K) : ∃ fd, FunD K "is_rate" "is_rate" (defArgs (top 17)) (defBody (top 17)) (defScope (top 17)) [] [] (atG "is_rate" K) fd := c.df 49 (d := d_is_rate)
theorem wk_is_rate (c : SaysA cks dfs K) (Y : K.In h) (G : h.Ns mainGlobals mg) {fd : FuncData} (F : FunD K "is_rate" "is_rate" (defArgs (top 17)) (defBody (top 17)) (defScope (top 17)) [] [] (atG "is_rate" K) fd) : FnG R.prog w K mg base 3 (atG "is_rate" K) fd ["value"] (spOf K ["value"].length m_is_rate) :=
  fnG_mk (k := 2) F sc_is_rate fun cdv A outer s H E hk tk po => by
  have nd := sc_is_rate.nd
  unfold b_is_rate
  exact (ws_one (w_ret (w_and (w_call (has_is_ratio c Y G) bp_is_ratio (hk.mono (by decide)) tk (wa_cons (w_var 0) wa_nil)) (w_one (w_cmp op_ge cs_int (w_ix hk (w_var 0) w_int) w_int)))))
theorem has_is_rate (c : SaysA cks dfs K) (Y : K.In h) (G : h.Ns mainGlobals mg) : Has R.prog w K mg base "is_rate" (defArgs (top 17)) ["value"] 3 m_is_rate := by
  obtain ⟨fd, F⟩ := fd_is_rate c
  exact ⟨⟨_, fd, _, _, _, ckG_ok Y G (c.ck 79 (f := ckG "is_rate")), wk_is_rate c Y G F, F⟩⟩
theorem fd_are_pulls (c : SaysA cks dfs K) : ∃ fd, FunD K "are_pulls" "are_pulls" (defArgs (top 32)) (defBody (top 32)) (defScope (top 32)) [] [] (atG "are_pulls" K) fd := c.df 50 (d := d_are_pulls)
theorem wk_are_pulls (c : SaysA cks dfs K) (Y : K.In h) (G : h.Ns mainGlobals mg) {fd : FuncData} (F : FunD K "are_pulls" "are_pulls" (defArgs (top 32)) (defBody (top 32)) (defScope (top 32)) [] [] (atG "are_pulls" K) fd) : FnG R.prog w K mg base 4 (atG "are_pulls" K) fd ["net", "value"] (spOf K ["net", "value"].length m_are_pulls) :=
  fnG_mk (k := 3) F sc_are_pulls fun cdv A outer s H E hk tk po => by
  have nd := sc_are_pulls.nd
  unfold b_are_pulls
  exact (ws_one (w_ret (w_and (w_call (has_is_tuple c Y G) bp_is_tuple (hk.mono (by decide)) tk (wa_cons (w_var 1) (wa_cons (w_callB cr_len sn_len (f_len c Y G) rfl (wa_cons (w_prop (has_Net_cords c Y G) bp_Net_cords (hk.mono (by decide)) (w_var 0)) wa_nil)) (wa_cons (w_callB cr_len sn_len (f_len c Y G) rfl (wa_cons (w_prop (has_Net_cords c Y G) bp_Net_cords (hk.mono (by decide)) (w_var 0)) wa_nil)) wa_nil)))) (w_one (w_callB (cr_all rfl) sn_all (f_all c Y G) rfl (wa_cons (w_lc (own := [("pull", 2)]) rfl nd (w_seq (w_var 1)) (blkOk_by (by kernel_rfl)) (fun _ _ _ _ _ => (wgw_name 2 nd)) (fun _ _ _ _ _ => wts_nil) (fun _ _ _ _ _ => (w_call (has_is_rate c Y G) bp_is_rate ((Here.blk hk _ _ _ _ _).mono (by decide)) takes_none (wa_cons (w_var 2) wa_nil)))) wa_nil))))))
theorem has_are_pulls (c : SaysA cks dfs K) (Y : K.In h) (G : h.Ns mainGlobals mg) : Has R.prog w K mg base "are_pulls" (defArgs (top 32)) ["net", "value"] 4 m_are_pulls := by
  obtain ⟨fd, F⟩ := fd_are_pulls c
  exact ⟨⟨_, fd, _, _, _, ckG_ok Y G (c.ck 80 (f := ckG "are_pulls")), wk_are_pulls c Y G F, F⟩⟩
theorem fd_check_pulls (c : SaysA cks dfs K) : ∃ fd, FunD K "check_pulls" "check_pulls" (defArgs (top 61)) (defBody (top 61)) (defScope (top 61)) [] [] (atG "check_pulls" K) fd := c.df 51 (d := d_check_pulls)
theorem wk_check_pulls (c : SaysA cks dfs K) (Y : K.In h) (G : h.Ns mainGlobals mg) {fd : FuncData} (F : FunD K "check_pulls" "check_pulls" (defArgs (top 61)) (defBody (top 61)) (defScope (top 61)) [] [] (atG "check_pulls" K) fd) : FnG R.prog w K mg base 5 (atG "check_pulls" K) fd ["net", "pulls"] (spOf K ["net", "pulls"].length m_check_pulls) :=
  fnG_mk (k := 4) F sc_check_pulls fun cdv A outer s H E hk tk po => by
  have nd := sc_check_pulls.nd
  unfold b_check_pulls
  exact (ws_one (w_if (wt_not (wt_truth (w_call (has_are_pulls c Y G) bp_are_pulls (hk.mono (by decide)) tk (wa_cons (w_var 0) (wa_cons (w_var 1) wa_nil))))) (ws_one w_never) ws_nil))
theorem has_check_pulls (c : SaysA cks dfs K) (Y : K.In h) (G : h.Ns mainGlobals mg) : Has R.prog w K mg base "check_pulls" (defArgs (top 61)) ["net", "pulls"] 5 m_check_pulls := by
  obtain ⟨fd, F⟩ := fd_check_pulls c
  exact ⟨⟨_, fd, _, _, _, ckG_ok Y G (c.ck 81 (f := ckG "check_pulls")), wk_check_pulls c Y G F, F⟩⟩
theorem fd_Net_rings (c : SaysA cks dfs K) : ∃ fd, FunD K "rings" "Net.rings" (defArgs (memS (top 54) 7)) (defBody (memS (top 54) 7)) (defScope (memS (top 54) 7)) [] [] (atP "Net" "rings" K) fd := c.df 52 (d := d_Net_rings)
theorem wk_Net_rings (c : SaysA cks dfs K) (Y : K.In h) (G : h.Ns mainGlobals mg) {fd : FuncData} (F : FunD K "rings" "Net.rings" (defArgs (memS (top 54) 7)) (defBody (memS (top 54) 7)) (defScope (memS (top 54) 7)) [] [] (atP "Net" "rings" K) fd) : FnG R.prog w K mg base 1 (atP "Net" "rings" K) fd ["self"] (spOf K ["self"].length m_Net_rings) :=
  fnG_mk (k := 0) F sc_Net_rings fun cdv A outer s H E hk tk po => by
  have nd := sc_Net_rings.nd
  unfold b_Net_rings
  exact (ws_one (w_ret (w_callTy (cr_tup rfl) sn_tup (f_tuple c Y G) rfl (wa_cons (w_slot (s_Drafts_own_rings c) (w_slot (s_Net_own_drafts c) (w_var 0))) wa_nil))))
theorem has_Net_rings (c : SaysA cks dfs K) (Y : K.In h) (G : h.Ns mainGlobals mg) : HasP R.prog w K mg base "Net" "rings" (defArgs (memS (top 54) 7)) ["self"] 1 m_Net_rings := by
  obtain ⟨fd, F⟩ := fd_Net_rings c
  obtain ⟨p1, p2, p3, p4⟩ := ckP_ok (c.ck 125 (f := ckP "Net" "rings"))
  exact ⟨ckS_ok (c.ck 105 (f := ckS "Net")), ⟨_, _, fd, _, _, _, p1, p2, p3, p4, wk_Net_rings c Y G F, F⟩⟩
theorem fd_Net_coords (c : SaysA cks dfs K) : ∃ fd, FunD K "coords" "Net.coords" (defArgs (memS (top 54) 5)) (defBody (memS (top 54) 5)) (defScope (memS (top 54) 5)) [] [] (atP "Net" "coords" K) fd := c.df 53 (d := d_Net_coords)
theorem wk_Net_coords (c : SaysA cks dfs K) (Y : K.In h) (G : h.Ns mainGlobals mg) {fd : FuncData} (F : FunD K "coords" "Net.coords" (defArgs (memS (top 54) 5)) (defBody (memS (top 54) 5)) (defScope (memS (top 54) 5)) [] [] (atP "Net" "coords" K) fd) : FnG R.prog w K mg base 1 (atP "Net" "coords" K) fd ["self"] (spOf K ["self"].length m_Net_coords) :=
  fnG_mk (k := 0) F sc_Net_coords fun cdv A outer s H E hk tk po => by
  have nd := sc_Net_coords.nd
  unfold b_Net_coords
  exact (ws_one (w_ret (w_slot (s_Drafts_own_coords c) (w_slot (s_Net_own_drafts c) (w_var 0)))))
theorem has_Net_coords (c : SaysA cks dfs K) (Y : K.In h) (G : h.Ns mainGlobals mg) : HasP R.prog w K mg base "Net" "coords" (defArgs (memS (top 54) 5)) ["self"] 1 m_Net_coords := by
  obtain ⟨fd, F⟩ := fd_Net_coords c
  obtain ⟨p1, p2, p3, p4⟩ := ckP_ok (c.ck 126 (f := ckP "Net" "coords"))
  exact ⟨ckS_ok (c.ck 105 (f := ckS "Net")), ⟨_, _, fd, _, _, _, p1, p2, p3, p4, wk_Net_coords c Y G F, F⟩⟩
theorem fd_noughts_of (c : SaysA cks dfs K) : ∃ fd, FunD K "noughts_of" "noughts_of" (defArgs (top 63)) (defBody (top 63)) (defScope (top 63)) [] [] (atG "noughts_of" K) fd := c.df 54 (d := d_noughts_of)
theorem wk_noughts_of (c : SaysA cks dfs K) (Y : K.In h) (G : h.Ns mainGlobals mg) {fd : FuncData} (F : FunD K "noughts_of" "noughts_of" (defArgs (top 63)) (defBody (top 63)) (defScope (top 63)) [] [] (atG "noughts_of" K) fd) : FnG R.prog w K mg base 3 (atG "noughts_of" K) fd ["net"] (spOf K ["net"].length m_noughts_of) :=
  fnG_mk (k := 2) F sc_noughts_of fun cdv A outer s H E hk tk po => by
  have nd := sc_noughts_of.nd
  unfold b_noughts_of
  exact (ws_one (w_ret (w_bin or_mulB (sn_mulB (b := false)) (w_tup (wa_cons (w_glo (g_NOUGHT c Y G)) wa_nil)) (w_prop (has_Net_coords c Y G) bp_Net_coords (hk.mono (by decide)) (w_var 0)))))
theorem has_noughts_of (c : SaysA cks dfs K) (Y : K.In h) (G : h.Ns mainGlobals mg) : Has R.prog w K mg base "noughts_of" (defArgs (top 63)) ["net"] 3 m_noughts_of := by
  obtain ⟨fd, F⟩ := fd_noughts_of c
  exact ⟨⟨_, fd, _, _, _, ckG_ok Y G (c.ck 82 (f := ckG "noughts_of")), wk_noughts_of c Y G F, F⟩⟩
theorem fd_is_string (c : SaysA cks dfs K) : ∃ fd, FunD K "is_string" "is_string" (defArgs (top 29)) (defBody (top 29)) (defScope (top 29)) [] [] (atG "is_string" K) fd := c.df 55 (d := d_is_string)
theorem wk_is_string (c : SaysA cks dfs K) (Y : K.In h) (G : h.Ns mainGlobals mg) {fd : FuncData} (F : FunD K "is_string" "is_string" (defArgs (top 29)) (defBody (top 29)) (defScope (top 29)) [] [] (atG "is_string" K) fd) : FnG R.prog w K mg base 1 (atG "is_string" K) fd ["value", "some"] (spOf K ["value", "some"].length m_is_string) :=
  fnG_mk (k := 0) F sc_is_string fun cdv A outer s H E hk tk po => by
  have nd := sc_is_string.nd
  unfold b_is_string
  exact (ws_one (w_ret (w_and (w_isi (U := "str") (w_var 0) (by decide) (f_isinstance c Y G) (f_str c Y G)) (w_one (w_cmp (or_in hk) cs_in (w_var 0) (w_var 1))))))
theorem has_is_string (c : SaysA cks dfs K) (Y : K.In h) (G : h.Ns mainGlobals mg) : Has R.prog w K mg base "is_string" (defArgs (top 29)) ["value", "some"] 1 m_is_string := by
  obtain ⟨fd, F⟩ := fd_is_string c
  exact ⟨⟨_, fd, _, _, _, ckG_ok Y G (c.ck 83 (f := ckG "is_string")), wk_is_string c Y G F, F⟩⟩
theorem fd_Net_pegs (c : SaysA cks dfs K) : ∃ fd, FunD K "pegs" "Net.pegs" (defArgs (memS (top 54) 6)) (defBody (memS (top 54) 6)) (defScope (memS (top 54) 6)) [] [] (atP "Net" "pegs" K) fd := c.df 56 (d := d_Net_pegs)
theorem wk_Net_pegs (c : SaysA cks dfs K) (Y : K.In h) (G : h.Ns mainGlobals mg) {fd : FuncData} (F : FunD K "pegs" "Net.pegs" (defArgs (memS (top 54) 6)) (defBody (memS (top 54) 6)) (defScope (memS (top 54) 6)) [] [] (atP "Net" "pegs" K) fd) : FnG R.prog w K mg base 1 (atP "Net" "pegs" K) fd ["self"] (spOf K ["self"].length m_Net_pegs) :=
  fnG_mk (k := 0) F sc_Net_pegs fun cdv A outer s H E hk tk po => by
  have nd := sc_Net_pegs.nd
  unfold b_Net_pegs
  exact (ws_one (w_ret (w_callTy (cr_tup rfl) sn_tup (f_tuple c Y G) rfl (wa_cons (w_slot (s_Drafts_own_pegs c) (w_slot (s_Net_own_drafts c) (w_var 0))) wa_nil))))
theorem has_Net_pegs (c : SaysA cks dfs K) (Y : K.In h) (G : h.Ns mainGlobals mg) : HasP R.prog w K mg base "Net" "pegs" (defArgs (memS (top 54) 6)) ["self"] 1 m_Net_pegs := by
  obtain ⟨fd, F⟩ := fd_Net_pegs c
  obtain ⟨p1, p2, p3, p4⟩ := ckP_ok (c.ck 127 (f := ckP "Net" "pegs"))
  exact ⟨ckS_ok (c.ck 105 (f := ckS "Net")), ⟨_, _, fd, _, _, _, p1, p2, p3, p4, wk_Net_pegs c Y G F, F⟩⟩
theorem fd_check_name (c : SaysA cks dfs K) : ∃ fd, FunD K "check_name" "check_name" (defArgs (top 55)) (defBody (top 55)) (defScope (top 55)) [] [] (atG "check_name" K) fd := c.df 57 (d := d_check_name)
theorem wk_check_name (c : SaysA cks dfs K) (Y : K.In h) (G : h.Ns mainGlobals mg) {fd : FuncData} (F : FunD K "check_name" "check_name" (defArgs (top 55)) (defBody (top 55)) (defScope (top 55)) [] [] (atG "check_name" K) fd) : FnG R.prog w K mg base 3 (atG "check_name" K) fd ["net", "name"] (spOf K ["net", "name"].length m_check_name) :=
  fnG_mk (k := 2) F sc_check_name fun cdv A outer s H E hk tk po => by
  have nd := sc_check_name.nd
  unfold b_check_name
  exact (ws_one (w_if (wt_not (wt_truth (w_call (has_is_string c Y G) bp_is_string (hk.mono (by decide)) tk (wa_cons (w_var 1) (wa_cons (w_tup (wa_star (w_prop (has_Net_pegs c Y G) bp_Net_pegs (hk.mono (by decide)) (w_var 0)) (wa_star (w_prop (has_Net_rings c Y G) bp_Net_rings (hk.mono (by decide)) (w_var 0)) wa_nil))) wa_nil))))) (ws_one w_never) ws_nil))
theorem has_check_name (c : SaysA cks dfs K) (Y : K.In h) (G : h.Ns mainGlobals mg) : Has R.prog w K mg base "check_name" (defArgs (top 55)) ["net", "name"] 3 m_check_name := by
  obtain ⟨fd, F⟩ := fd_check_name c
  exact ⟨⟨_, fd, _, _, _, ckG_ok Y G (c.ck 84 (f := ckG "check_name")), wk_check_name c Y G F, F⟩⟩
theorem fd_cords_at (c : SaysA cks dfs K) : ∃ fd, FunD K "cords_at" "cords_at" (defArgs (top 58)) (defBody (top 58)) (defScope (top 58)) [] [] (atG "cords_at" K) fd := c.df 58 (d := d_cords_at)
theorem wk_cords_at (c : SaysA cks dfs K) (Y : K.In h) (G : h.Ns mainGlobals mg) {fd : FuncData} (F : FunD K "cords_at" "cords_at" (defArgs (top 58)) (defBody (top 58)) (defScope (top 58)) [] [] (atG "cords_at" K) fd) : FnG R.prog w K mg base 4 (atG "cords_at" K) fd ["net", "name"] (spOf K ["net", "name"].length m_cords_at) :=
  fnG_mk (k := 3) F sc_cords_at fun cdv A outer s H E hk tk po => by
  have nd := sc_cords_at.nd
  unfold b_cords_at
  exact (ws_cons (w_expr (w_call (has_check_name c Y G) bp_check_name (hk.mono (by decide)) tk (wa_cons (w_var 0) (wa_cons (w_var 1) wa_nil))))
    (ws_one (w_ret (w_callTy (cr_tup rfl) sn_tup (f_tuple c Y G) rfl (wa_cons (w_lc (own := [("at", 2), ("ends", 3)]) rfl nd (w_enum (f_enumerate c Y G) (wa_cons (w_prop (has_Net_cords c Y G) bp_Net_cords (hk.mono (by decide)) (w_var 0)) wa_nil)) (blkOk_by (by kernel_rfl)) (fun _ _ _ _ _ => (wgw_tup rfl (wgws_cons (wgw_name 2 nd) (wgws_cons (wgw_name 3 nd) wgws_nil)))) (fun _ _ _ _ _ => (wts_one (wt_cmp (or_in (Here.blk hk _ _ _ _ _)) cs_in (w_var 1) (w_var 3)))) (fun _ _ _ _ _ => (w_var 2))) wa_nil)))))
theorem has_cords_at (c : SaysA cks dfs K) (Y : K.In h) (G : h.Ns mainGlobals mg) : Has R.prog w K mg base "cords_at" (defArgs (top 58)) ["net", "name"] 4 m_cords_at := by
  obtain ⟨fd, F⟩ := fd_cords_at c
  exact ⟨⟨_, fd, _, _, _, ckG_ok Y G (c.ck 85 (f := ckG "cords_at")), wk_cords_at c Y G F, F⟩⟩
theorem fd_ratio (c : SaysA cks dfs K) : ∃ fd, FunD K "ratio" "ratio" (defArgs (top 9)) (defBody (top 9)) (defScope (top 9)) [] [] (atG "ratio" K) fd := c.df 59 (d := d_ratio)
theorem wk_ratio (c : SaysA cks dfs K) (Y : K.In h) (G : h.Ns mainGlobals mg) {fd : FuncData} (F : FunD K "ratio" "ratio" (defArgs (top 9)) (defBody (top 9)) (defScope (top 9)) [] [] (atG "ratio" K) fd) : FnG R.prog w K mg base 2 (atG "ratio" K) fd ["top", "bottom"] (spOf K ["top", "bottom"].length m_ratio) :=
  fnG_mk (k := 1) F sc_ratio fun cdv A outer s H E hk tk po => by
  have nd := sc_ratio.nd
  unfold b_ratio
  exact (ws_cons (w_asg (w_call (has_common c Y G) bp_common (hk.mono (by decide)) tk (wa_cons (w_var 0) (wa_cons (w_var 1) wa_nil))) (wg_name 2 nd))
    (ws_cons (w_asg (w_ifE (wt_cmp op_gt cs_int (w_var 1) w_int) (w_var 2) (w_bin op_sub sn_sub w_int (w_var 2))) (wg_name 2 nd))
    (ws_one (w_ret (w_tup (wa_cons (w_bin op_fdivW sn_div (w_var 0) (w_var 2)) (wa_cons (w_bin op_fdivW sn_div (w_var 1) (w_var 2)) wa_nil)))))))
theorem has_ratio (c : SaysA cks dfs K) (Y : K.In h) (G : h.Ns mainGlobals mg) : Has R.prog w K mg base "ratio" (defArgs (top 9)) ["top", "bottom"] 2 m_ratio := by
  obtain ⟨fd, F⟩ := fd_ratio c
  exact ⟨⟨_, fd, _, _, _, ckG_ok Y G (c.ck 86 (f := ckG "ratio")), wk_ratio c Y G F, F⟩⟩
theorem fd_plus (c : SaysA cks dfs K) : ∃ fd, FunD K "plus" "plus" (defArgs (top 10)) (defBody (top 10)) (defScope (top 10)) [] [] (atG "plus" K) fd := c.df 60 (d := d_plus)
theorem wk_plus (c : SaysA cks dfs K) (Y : K.In h) (G : h.Ns mainGlobals mg) {fd : FuncData} (F : FunD K "plus" "plus" (defArgs (top 10)) (defBody (top 10)) (defScope (top 10)) [] [] (atG "plus" K) fd) : FnG R.prog w K mg base 3 (atG "plus" K) fd ["one", "other"] (spOf K ["one", "other"].length m_plus) :=
  fnG_mk (k := 2) F sc_plus fun cdv A outer s H E hk tk po => by
  have nd := sc_plus.nd
  unfold b_plus
  exact (ws_one (w_ret (w_call (has_ratio c Y G) bp_ratio (hk.mono (by decide)) tk (wa_cons (w_bin or_add (sn_add (b := false)) (w_bin or_mul sn_mul (w_ix hk (w_var 0) w_int) (w_ix hk (w_var 1) w_int)) (w_bin or_mul sn_mul (w_ix hk (w_var 1) w_int) (w_ix hk (w_var 0) w_int))) (wa_cons (w_bin or_mul sn_mul (w_ix hk (w_var 0) w_int) (w_ix hk (w_var 1) w_int)) wa_nil)))))
theorem has_plus (c : SaysA cks dfs K) (Y : K.In h) (G : h.Ns mainGlobals mg) : Has R.prog w K mg base "plus" (defArgs (top 10)) ["one", "other"] 3 m_plus := by
  obtain ⟨fd, F⟩ := fd_plus c
  exact ⟨⟨_, fd, _, _, _, ckG_ok Y G (c.ck 87 (f := ckG "plus")), wk_plus c Y G F, F⟩⟩
theorem fd_row_plus (c : SaysA cks dfs K) : ∃ fd, FunD K "row_plus" "row_plus" (defArgs (top 13)) (defBody (top 13)) (defScope (top 13)) [] [] (atG "row_plus" K) fd := c.df 61 (d := d_row_plus)
theorem wk_row_plus (c : SaysA cks dfs K) (Y : K.In h) (G : h.Ns mainGlobals mg) {fd : FuncData} (F : FunD K "row_plus" "row_plus" (defArgs (top 13)) (defBody (top 13)) (defScope (top 13)) [] [] (atG "row_plus" K) fd) : FnG R.prog w K mg base 4 (atG "row_plus" K) fd ["one", "other"] (spOf K ["one", "other"].length m_row_plus) :=
  fnG_mk (k := 3) F sc_row_plus fun cdv A outer s H E hk tk po => by
  have nd := sc_row_plus.nd
  unfold b_row_plus
  exact (ws_one (w_ret (w_callTy (cr_tup rfl) sn_tup (f_tuple c Y G) rfl (wa_cons (w_lc (own := [("mine", 2), ("its", 3)]) rfl nd (w_zip (f_zip c Y G) (wa_cons (w_var 0) (wa_cons (w_var 1) wa_nil))) (blkOk_by (by kernel_rfl)) (fun _ _ _ _ _ => (wgw_tup rfl (wgws_cons (wgw_name 2 nd) (wgws_cons (wgw_name 3 nd) wgws_nil)))) (fun _ _ _ _ _ => wts_nil) (fun _ _ _ _ _ => (w_call (has_plus c Y G) bp_plus ((Here.blk hk _ _ _ _ _).mono (by decide)) takes_none (wa_cons (w_var 2) (wa_cons (w_var 3) wa_nil))))) wa_nil))))
theorem has_row_plus (c : SaysA cks dfs K) (Y : K.In h) (G : h.Ns mainGlobals mg) : Has R.prog w K mg base "row_plus" (defArgs (top 13)) ["one", "other"] 4 m_row_plus := by
  obtain ⟨fd, F⟩ := fd_row_plus c
  exact ⟨⟨_, fd, _, _, _, ckG_ok Y G (c.ck 88 (f := ckG "row_plus")), wk_row_plus c Y G F, F⟩⟩
theorem fd_times (c : SaysA cks dfs K) : ∃ fd, FunD K "times" "times" (defArgs (top 12)) (defBody (top 12)) (defScope (top 12)) [] [] (atG "times" K) fd := c.df 62 (d := d_times)
theorem wk_times (c : SaysA cks dfs K) (Y : K.In h) (G : h.Ns mainGlobals mg) {fd : FuncData} (F : FunD K "times" "times" (defArgs (top 12)) (defBody (top 12)) (defScope (top 12)) [] [] (atG "times" K) fd) : FnG R.prog w K mg base 3 (atG "times" K) fd ["one", "other"] (spOf K ["one", "other"].length m_times) :=
  fnG_mk (k := 2) F sc_times fun cdv A outer s H E hk tk po => by
  have nd := sc_times.nd
  unfold b_times
  exact (ws_one (w_ret (w_call (has_ratio c Y G) bp_ratio (hk.mono (by decide)) tk (wa_cons (w_bin or_mul sn_mul (w_ix hk (w_var 0) w_int) (w_ix hk (w_var 1) w_int)) (wa_cons (w_bin or_mul sn_mul (w_ix hk (w_var 0) w_int) (w_ix hk (w_var 1) w_int)) wa_nil)))))
theorem has_times (c : SaysA cks dfs K) (Y : K.In h) (G : h.Ns mainGlobals mg) : Has R.prog w K mg base "times" (defArgs (top 12)) ["one", "other"] 3 m_times := by
  obtain ⟨fd, F⟩ := fd_times c
  exact ⟨⟨_, fd, _, _, _, ckG_ok Y G (c.ck 89 (f := ckG "times")), wk_times c Y G F, F⟩⟩
theorem fd_row_times (c : SaysA cks dfs K) : ∃ fd, FunD K "row_times" "row_times" (defArgs (top 15)) (defBody (top 15)) (defScope (top 15)) [] [] (atG "row_times" K) fd := c.df 63 (d := d_row_times)
theorem wk_row_times (c : SaysA cks dfs K) (Y : K.In h) (G : h.Ns mainGlobals mg) {fd : FuncData} (F : FunD K "row_times" "row_times" (defArgs (top 15)) (defBody (top 15)) (defScope (top 15)) [] [] (atG "row_times" K) fd) : FnG R.prog w K mg base 4 (atG "row_times" K) fd ["row", "by"] (spOf K ["row", "by"].length m_row_times) :=
  fnG_mk (k := 3) F sc_row_times fun cdv A outer s H E hk tk po => by
  have nd := sc_row_times.nd
  unfold b_row_times
  exact (ws_one (w_ret (w_callTy (cr_tup rfl) sn_tup (f_tuple c Y G) rfl (wa_cons (w_lc (own := [("one", 2)]) rfl nd (w_seq (w_var 0)) (blkOk_by (by kernel_rfl)) (fun _ _ _ _ _ => (wgw_name 2 nd)) (fun _ _ _ _ _ => wts_nil) (fun _ _ _ _ _ => (w_call (has_times c Y G) bp_times ((Here.blk hk _ _ _ _ _).mono (by decide)) takes_none (wa_cons (w_var 2) (wa_cons (w_var 1) wa_nil))))) wa_nil))))
theorem has_row_times (c : SaysA cks dfs K) (Y : K.In h) (G : h.Ns mainGlobals mg) : Has R.prog w K mg base "row_times" (defArgs (top 15)) ["row", "by"] 4 m_row_times := by
  obtain ⟨fd, F⟩ := fd_row_times c
  exact ⟨⟨_, fd, _, _, _, ckG_ok Y G (c.ck 90 (f := ckG "row_times")), wk_row_times c Y G F, F⟩⟩
theorem fd_less (c : SaysA cks dfs K) : ∃ fd, FunD K "less" "less" (defArgs (top 11)) (defBody (top 11)) (defScope (top 11)) [] [] (atG "less" K) fd := c.df 64 (d := d_less)
theorem wk_less (c : SaysA cks dfs K) (Y : K.In h) (G : h.Ns mainGlobals mg) {fd : FuncData} (F : FunD K "less" "less" (defArgs (top 11)) (defBody (top 11)) (defScope (top 11)) [] [] (atG "less" K) fd) : FnG R.prog w K mg base 3 (atG "less" K) fd ["one", "other"] (spOf K ["one", "other"].length m_less) :=
  fnG_mk (k := 2) F sc_less fun cdv A outer s H E hk tk po => by
  have nd := sc_less.nd
  unfold b_less
  exact (ws_one (w_ret (w_call (has_ratio c Y G) bp_ratio (hk.mono (by decide)) tk (wa_cons (w_bin op_sub sn_sub (w_bin or_mul sn_mul (w_ix hk (w_var 0) w_int) (w_ix hk (w_var 1) w_int)) (w_bin or_mul sn_mul (w_ix hk (w_var 1) w_int) (w_ix hk (w_var 0) w_int))) (wa_cons (w_bin or_mul sn_mul (w_ix hk (w_var 0) w_int) (w_ix hk (w_var 1) w_int)) wa_nil)))))
theorem has_less (c : SaysA cks dfs K) (Y : K.In h) (G : h.Ns mainGlobals mg) : Has R.prog w K mg base "less" (defArgs (top 11)) ["one", "other"] 3 m_less := by
  obtain ⟨fd, F⟩ := fd_less c
  exact ⟨⟨_, fd, _, _, _, ckG_ok Y G (c.ck 91 (f := ckG "less")), wk_less c Y G F, F⟩⟩
theorem fd_row_less (c : SaysA cks dfs K) : ∃ fd, FunD K "row_less" "row_less" (defArgs (top 14)) (defBody (top 14)) (defScope (top 14)) [] [] (atG "row_less" K) fd := c.df 65 (d := d_row_less)
theorem wk_row_less (c : SaysA cks dfs K) (Y : K.In h) (G : h.Ns mainGlobals mg) {fd : FuncData} (F : FunD K "row_less" "row_less" (defArgs (top 14)) (defBody (top 14)) (defScope (top 14)) [] [] (atG "row_less" K) fd) : FnG R.prog w K mg base 4 (atG "row_less" K) fd ["one", "other"] (spOf K ["one", "other"].length m_row_less) :=
  fnG_mk (k := 3) F sc_row_less fun cdv A outer s H E hk tk po => by
  have nd := sc_row_less.nd
  unfold b_row_less
  exact (ws_one (w_ret (w_callTy (cr_tup rfl) sn_tup (f_tuple c Y G) rfl (wa_cons (w_lc (own := [("mine", 2), ("its", 3)]) rfl nd (w_zip (f_zip c Y G) (wa_cons (w_var 0) (wa_cons (w_var 1) wa_nil))) (blkOk_by (by kernel_rfl)) (fun _ _ _ _ _ => (wgw_tup rfl (wgws_cons (wgw_name 2 nd) (wgws_cons (wgw_name 3 nd) wgws_nil)))) (fun _ _ _ _ _ => wts_nil) (fun _ _ _ _ _ => (w_call (has_less c Y G) bp_less ((Here.blk hk _ _ _ _ _).mono (by decide)) takes_none (wa_cons (w_var 2) (wa_cons (w_var 3) wa_nil))))) wa_nil))))
theorem has_row_less (c : SaysA cks dfs K) (Y : K.In h) (G : h.Ns mainGlobals mg) : Has R.prog w K mg base "row_less" (defArgs (top 14)) ["one", "other"] 4 m_row_less := by
  obtain ⟨fd, F⟩ := fd_row_less c
  exact ⟨⟨_, fd, _, _, _, ckG_ok Y G (c.ck 92 (f := ckG "row_less")), wk_row_less c Y G F, F⟩⟩
theorem fd_way_of (c : SaysA cks dfs K) : ∃ fd, FunD K "way_of" "way_of" (defArgs (top 57)) (defBody (top 57)) (defScope (top 57)) [] [] (atG "way_of" K) fd := c.df 66 (d := d_way_of)
theorem wk_way_of (c : SaysA cks dfs K) (Y : K.In h) (G : h.Ns mainGlobals mg) {fd : FuncData} (F : FunD K "way_of" "way_of" (defArgs (top 57)) (defBody (top 57)) (defScope (top 57)) [] [] (atG "way_of" K) fd) : FnG R.prog w K mg base 5 (atG "way_of" K) fd ["net", "cord"] (spOf K ["net", "cord"].length m_way_of) :=
  fnG_mk (k := 4) F sc_way_of fun cdv A outer s H E hk tk po => by
  have nd := sc_way_of.nd
  unfold b_way_of
  exact (ws_cons (w_asg (w_ix hk (w_prop (has_Net_cords c Y G) bp_Net_cords (hk.mono (by decide)) (w_var 0)) (w_var 1)) (wg_unp rfl (wgs_cons (wg_name 2 nd) (wgs_cons (wg_name 3 nd) wgs_nil))))
    (ws_one (w_ret (w_call (has_row_less c Y G) bp_row_less (hk.mono (by decide)) tk (wa_cons (w_meth (has_Drafts_place c Y G) bp_Drafts_place (hk.mono (by decide)) tk (w_slot (s_Net_own_drafts c) (w_var 0)) (wa_cons (w_var 3) wa_nil)) (wa_cons (w_meth (has_Drafts_place c Y G) bp_Drafts_place (hk.mono (by decide)) tk (w_slot (s_Net_own_drafts c) (w_var 0)) (wa_cons (w_var 2) wa_nil)) wa_nil))))))
theorem has_way_of (c : SaysA cks dfs K) (Y : K.In h) (G : h.Ns mainGlobals mg) : Has R.prog w K mg base "way_of" (defArgs (top 57)) ["net", "cord"] 5 m_way_of := by
  obtain ⟨fd, F⟩ := fd_way_of c
  exact ⟨⟨_, fd, _, _, _, ckG_ok Y G (c.ck 93 (f := ckG "way_of")), wk_way_of c Y G F, F⟩⟩
theorem fd_way_from (c : SaysA cks dfs K) : ∃ fd, FunD K "way_from" "way_from" (defArgs (top 62)) (defBody (top 62)) (defScope (top 62)) [] [] (atG "way_from" K) fd := c.df 67 (d := d_way_from)
theorem wk_way_from (c : SaysA cks dfs K) (Y : K.In h) (G : h.Ns mainGlobals mg) {fd : FuncData} (F : FunD K "way_from" "way_from" (defArgs (top 62)) (defBody (top 62)) (defScope (top 62)) [] [] (atG "way_from" K) fd) : FnG R.prog w K mg base 6 (atG "way_from" K) fd ["net", "cord", "name"] (spOf K ["net", "cord", "name"].length m_way_from) :=
  fnG_mk (k := 5) F sc_way_from fun cdv A outer s H E hk tk po => by
  have nd := sc_way_from.nd
  unfold b_way_from
  exact (ws_cons (w_asg (w_call (has_way_of c Y G) bp_way_of (hk.mono (by decide)) tk (wa_cons (w_var 0) (wa_cons (w_var 1) wa_nil))) (wg_name 3 nd))
    (ws_one (w_ret (w_ifE (wt_cmp (or_eq hk) cs_eq (w_ix hk (w_ix hk (w_prop (has_Net_cords c Y G) bp_Net_cords (hk.mono (by decide)) (w_var 0)) (w_var 1)) w_int) (w_var 2)) (w_var 3) (w_call (has_row_times c Y G) bp_row_times (hk.mono (by decide)) tk (wa_cons (w_var 3) (wa_cons (w_glo (g_MINUS_ONE c Y G)) wa_nil)))))))
theorem has_way_from (c : SaysA cks dfs K) (Y : K.In h) (G : h.Ns mainGlobals mg) : Has R.prog w K mg base "way_from" (defArgs (top 62)) ["net", "cord", "name"] 6 m_way_from := by
  obtain ⟨fd, F⟩ := fd_way_from c
  exact ⟨⟨_, fd, _, _, _, ckG_ok Y G (c.ck 94 (f := ckG "way_from")), wk_way_from c Y G F, F⟩⟩
theorem fd_left_at (c : SaysA cks dfs K) : ∃ fd, FunD K "left_at" "left_at" (defArgs (top 64)) (defBody (top 64)) (defScope (top 64)) [] [] (atG "left_at" K) fd := c.df 68 (d := d_left_at)
theorem wk_left_at (c : SaysA cks dfs K) (Y : K.In h) (G : h.Ns mainGlobals mg) {fd : FuncData} (F : FunD K "left_at" "left_at" (defArgs (top 64)) (defBody (top 64)) (defScope (top 64)) [] [] (atG "left_at" K) fd) : FnG R.prog w K mg base 7 (atG "left_at" K) fd ["net", "pulls", "ring"] (spOf K ["net", "pulls", "ring"].length m_left_at) :=
  fnG_mk (k := 6) F sc_left_at fun cdv A outer s H E hk tk po => by
  have nd := sc_left_at.nd
  unfold b_left_at
  exact (ws_cons (w_asg (w_call (has_noughts_of c Y G) bp_noughts_of (hk.mono (by decide)) tk (wa_cons (w_var 0) wa_nil)) (wg_name 3 nd))
    (ws_cons (w_for po rfl (w_seq (w_call (has_cords_at c Y G) bp_cords_at (hk.mono (by decide)) tk (wa_cons (w_var 0) (wa_cons (w_var 2) wa_nil)))) (wg_name 4 nd) (ws_one (w_asg (w_call (has_row_plus c Y G) bp_row_plus (hk.mono (by decide)) tk (wa_cons (w_var 3) (wa_cons (w_call (has_row_times c Y G) bp_row_times (hk.mono (by decide)) tk (wa_cons (w_call (has_way_from c Y G) bp_way_from (hk.mono (by decide)) tk (wa_cons (w_var 0) (wa_cons (w_var 4) (wa_cons (w_var 2) wa_nil)))) (wa_cons (w_ix hk (w_var 1) (w_var 4)) wa_nil))) wa_nil))) (wg_name 3 nd))))
    (ws_one (w_ret (w_var 3)))))
theorem has_left_at (c : SaysA cks dfs K) (Y : K.In h) (G : h.Ns mainGlobals mg) : Has R.prog w K mg base "left_at" (defArgs (top 64)) ["net", "pulls", "ring"] 7 m_left_at := by
  obtain ⟨fd, F⟩ := fd_left_at c
  exact ⟨⟨_, fd, _, _, _, ckG_ok Y G (c.ck 95 (f := ckG "left_at")), wk_left_at c Y G F, F⟩⟩
theorem fd_weight_of (c : SaysA cks dfs K) : ∃ fd, FunD K "weight_of" "weight_of" (defArgs (top 56)) (defBody (top 56)) (defScope (top 56)) [] [] (atG "weight_of" K) fd := c.df 69 (d := d_weight_of)
theorem wk_weight_of (c : SaysA cks dfs K) (Y : K.In h) (G : h.Ns mainGlobals mg) {fd : FuncData} (F : FunD K "weight_of" "weight_of" (defArgs (top 56)) (defBody (top 56)) (defScope (top 56)) [] [] (atG "weight_of" K) fd) : FnG R.prog w K mg base 4 (atG "weight_of" K) fd ["net", "name"] (spOf K ["net", "name"].length m_weight_of) :=
  fnG_mk (k := 3) F sc_weight_of fun cdv A outer s H E hk tk po => by
  have nd := sc_weight_of.nd
  unfold b_weight_of
  exact (ws_cons (w_expr (w_call (has_check_name c Y G) bp_check_name (hk.mono (by decide)) tk (wa_cons (w_var 0) (wa_cons (w_var 1) wa_nil))))
    (ws_one (w_ret (w_ifE (wt_cmp (or_in hk) cs_in (w_var 1) (w_prop (has_Net_rings c Y G) bp_Net_rings (hk.mono (by decide)) (w_var 0))) (w_ix hk (w_ix hk (w_slot (s_Drafts_own_rings c) (w_slot (s_Net_own_drafts c) (w_var 0))) (w_var 1)) w_int) (w_bin or_mulB (sn_mulB (b := false)) (w_tup (wa_cons (w_glo (g_NOUGHT c Y G)) wa_nil)) (w_prop (has_Net_coords c Y G) bp_Net_coords (hk.mono (by decide)) (w_var 0)))))))
theorem has_weight_of (c : SaysA cks dfs K) (Y : K.In h) (G : h.Ns mainGlobals mg) : Has R.prog w K mg base "weight_of" (defArgs (top 56)) ["net", "name"] 4 m_weight_of := by
  obtain ⟨fd, F⟩ := fd_weight_of c
  exact ⟨⟨_, fd, _, _, _, ckG_ok Y G (c.ck 96 (f := ckG "weight_of")), wk_weight_of c Y G F, F⟩⟩
theorem fd_left_over (c : SaysA cks dfs K) : ∃ fd, FunD K "left_over" "left_over" (defArgs (top 65)) (defBody (top 65)) (defScope (top 65)) [] [] (atG "left_over" K) fd := c.df 70 (d := d_left_over)
theorem wk_left_over (c : SaysA cks dfs K) (Y : K.In h) (G : h.Ns mainGlobals mg) {fd : FuncData} (F : FunD K "left_over" "left_over" (defArgs (top 65)) (defBody (top 65)) (defScope (top 65)) [] [] (atG "left_over" K) fd) : FnG R.prog w K mg base 8 (atG "left_over" K) fd ["net", "pulls", "weighed"] (spOf K ["net", "pulls", "weighed"].length m_left_over) :=
  fnG_mk (k := 7) F sc_left_over fun cdv A outer s H E hk tk po => by
  have nd := sc_left_over.nd
  unfold b_left_over
  exact (ws_cons (w_expr (w_call (has_check_pulls c Y G) bp_check_pulls (hk.mono (by decide)) tk (wa_cons (w_var 0) (wa_cons (w_var 1) wa_nil))))
    (ws_cons (w_if (wt_not (wt_truth (w_isi (U := "bool") (w_var 2) (by decide) (f_isinstance c Y G) (f_bool c Y G)))) (ws_one w_never) ws_nil)
    (ws_cons (w_setLc (k := 3) (own := [("ring", 4)]) rfl nd (w_seq (w_prop (has_Net_rings c Y G) bp_Net_rings (hk.mono (by decide)) (w_var 0))) (blkOk_by (by kernel_rfl)) (fun _ _ _ _ _ => (wgw_name 4 nd)) (fun _ _ _ _ _ => wts_nil) (fun _ _ _ _ _ => (w_call (has_left_at c Y G) bp_left_at ((Here.blk hk _ _ _ _ _).mono (by decide)) takes_none (wa_cons (w_var 0) (wa_cons (w_var 1) (wa_cons (w_var 4) wa_nil))))))
    (ws_cons (w_if (wt_truth (w_var 2)) (ws_one (w_setLc (k := 3) (own := [("row", 5), ("ring", 4)]) rfl nd (w_zipM (f_zip c Y G) (wa_cons (w_var 3) (wa_cons (w_prop (has_Net_rings c Y G) bp_Net_rings (hk.mono (by decide)) (w_var 0)) wa_nil))) (blkOk_by (by kernel_rfl)) (fun _ _ _ _ _ => (wgw_tup rfl (wgws_cons (wgw_name 5 nd) (wgws_cons (wgw_name 4 nd) wgws_nil)))) (fun _ _ _ _ _ => wts_nil) (fun _ _ _ _ _ => (w_call (has_row_plus c Y G) bp_row_plus ((Here.blk hk _ _ _ _ _).mono (by decide)) takes_none (wa_cons (w_var 5) (wa_cons (w_call (has_weight_of c Y G) bp_weight_of ((Here.blk hk _ _ _ _ _).mono (by decide)) takes_none (wa_cons (w_var 0) (wa_cons (w_var 4) wa_nil))) wa_nil)))))) ws_nil)
    (ws_one (w_ret (w_callTy (cr_tup rfl) sn_tup (f_tuple c Y G) rfl (wa_cons (w_var 3) wa_nil))))))))
theorem has_left_over (c : SaysA cks dfs K) (Y : K.In h) (G : h.Ns mainGlobals mg) : Has R.prog w K mg base "left_over" (defArgs (top 65)) ["net", "pulls", "weighed"] 8 m_left_over := by
  obtain ⟨fd, F⟩ := fd_left_over c
  exact ⟨⟨_, fd, _, _, _, ckG_ok Y G (c.ck 97 (f := ckG "left_over")), wk_left_over c Y G F, F⟩⟩
theorem fd__law_left (c : SaysA cks dfs K) : ∃ fd, FunD K "_law_left" "_law_left" (defArgs (top 95)) (defBody (top 95)) (defScope (top 95)) [] [] (atG "_law_left" K) fd := c.df 71 (d := d__law_left)
theorem wk__law_left (c : SaysA cks dfs K) (Y : K.In h) (G : h.Ns mainGlobals mg) {fd : FuncData} (F : FunD K "_law_left" "_law_left" (defArgs (top 95)) (defBody (top 95)) (defScope (top 95)) [] [] (atG "_law_left" K) fd) : FnG R.prog w K mg base 7 (atG "_law_left" K) fd ["own", "pulls", "weighed"] (spOf K ["own", "pulls", "weighed"].length m__law_left) :=
  fnG_mk (k := 6) F sc__law_left fun cdv A outer s H E hk tk po => by
  have nd := sc__law_left.nd
  unfold b__law_left
  exact (ws_one (w_ret (w_callTy (cr_tup rfl) sn_tup (f_tuple c Y G) rfl (wa_cons (w_lc (own := [("name", 3)]) rfl nd (w_seq (w_call (has__law_net_rings c Y G) bp__law_net_rings (hk.mono (by decide)) tk (wa_cons (w_var 0) wa_nil))) (blkOk_by (by kernel_rfl)) (fun _ _ _ _ _ => (wgw_name 3 nd)) (fun _ _ _ _ _ => wts_nil) (fun _ _ _ _ _ => (w_call (has__law_net_left c Y G) bp__law_net_left ((Here.blk hk _ _ _ _ _).mono (by decide)) takes_none (wa_cons (w_var 0) (wa_cons (w_var 1) (wa_cons (w_var 3) (wa_cons (w_var 2) wa_nil))))))) wa_nil))))
theorem has__law_left (c : SaysA cks dfs K) (Y : K.In h) (G : h.Ns mainGlobals mg) : Has R.prog w K mg base "_law_left" (defArgs (top 95)) ["own", "pulls", "weighed"] 7 m__law_left := by
  obtain ⟨fd, F⟩ := fd__law_left c
  exact ⟨⟨_, fd, _, _, _, ckG_ok Y G (c.ck 98 (f := ckG "_law_left")), wk__law_left c Y G F, F⟩⟩
theorem fd__law_right (c : SaysA cks dfs K) : ∃ fd, FunD K "_law_right" "_law_right" (defArgs (top 96)) (defBody (top 96)) (defScope (top 96)) [] [] (atG "_law_right" K) fd := c.df 72 (d := d__law_right)
theorem wk__law_right (c : SaysA cks dfs K) (Y : K.In h) (G : h.Ns mainGlobals mg) {fd : FuncData} (F : FunD K "_law_right" "_law_right" (defArgs (top 96)) (defBody (top 96)) (defScope (top 96)) [] [] (atG "_law_right" K) fd) : FnG R.prog w K mg base 10 (atG "_law_right" K) fd ["pot"] (spOf K ["pot"].length m__law_right) :=
  fnG_mk (k := 9) F sc__law_right fun cdv A outer s H E hk tk po => by
  have nd := sc__law_right.nd
  unfold b__law_right
  exact (ws_cons (w_asg (w_call (has__law_net_drawn c Y G) bp__law_net_drawn (hk.mono (by decide)) tk (wa_cons (w_var 0) (wa_cons w_int wa_nil))) (wg_name 1 nd))
    (ws_cons (w_par rfl nd (wa_cons (w_new (new_Net c Y G) bp_Net_u_init_u (hk.mono (by decide)) tk (wa_cons (w_call (has__law_net_text c Y G) bp__law_net_text (hk.mono (by decide)) tk (wa_cons (w_var 1) wa_nil)) wa_nil)) (wa_cons (w_call (has__law_of c Y G) bp__law_of (hk.mono (by decide)) tk (wa_cons (w_var 0) (wa_cons (w_lst false (wa_cons (w_tup (wa_cons w_int (wa_cons w_int wa_nil))) (wa_cons (w_tup (wa_cons w_int (wa_cons w_int wa_nil))) (wa_cons (w_tup (wa_cons w_int (wa_cons w_int wa_nil))) (wa_cons (w_tup (wa_cons w_int (wa_cons w_int wa_nil))) wa_nil))))) wa_nil))) wa_nil)))
    (ws_cons (w_par rfl nd (wa_cons (w_call (has__law_pulls_drawn c Y G) bp__law_pulls_drawn (hk.mono (by decide)) tk (wa_cons (w_var 0) (wa_cons (w_var 1) wa_nil))) (wa_cons (w_call (has__law_pulls_drawn c Y G) bp__law_pulls_drawn (hk.mono (by decide)) tk (wa_cons (w_var 0) (wa_cons (w_var 1) wa_nil))) wa_nil)))
    (ws_cons (w_par rfl nd (wa_cons (w_call (has__law_row_plus c Y G) bp__law_row_plus (hk.mono (by decide)) tk (wa_cons (w_var 4) (wa_cons (w_var 5) wa_nil))) (wa_cons (w_call (has__law_row_times c Y G) bp__law_row_times (hk.mono (by decide)) tk (wa_cons (w_var 4) (wa_cons (w_var 3) wa_nil))) wa_nil)))
    (ws_cons (w_for po rfl (w_seq (w_tup (wa_cons (w_var 4) (wa_cons (w_var 5) (wa_cons (w_var 6) (wa_cons (w_var 7) (wa_cons (w_bin or_mulB (sn_mulB (b := false)) (w_tup (wa_cons (w_tup (wa_cons w_int (wa_cons w_int wa_nil))) wa_nil)) (w_callB cr_len sn_len (f_len c Y G) rfl (wa_cons (w_ix hk (w_var 1) w_str) wa_nil))) wa_nil))))))) (wg_name 8 nd) (ws_one (w_for po rfl (w_seq (w_tup (wa_cons w_bl (wa_cons w_bl wa_nil)))) (wg_name 9 nd) (ws_one (w_if (wt_cmp (or_ne hk) cs_ne (w_callB (cr_repr hk) sn_repr (f_repr c Y G) rfl (wa_cons (w_callK0 (has_left_over c Y G) bk_left_over_0_weighed_pulls_net (hk.mono (by decide)) tk (wk_cons (w_var 9) (wk_cons (w_var 8) (wk_cons (w_var 2) wk_nil)))) wa_nil)) (w_callB (cr_repr hk) sn_repr (f_repr c Y G) rfl (wa_cons (w_call (has__law_left c Y G) bp__law_left (hk.mono (by decide)) tk (wa_cons (w_var 1) (wa_cons (w_var 8) (wa_cons (w_var 9) wa_nil)))) wa_nil))) (ws_one (w_ret w_bl)) ws_nil)))))
    (ws_one (w_ret w_bl)))))))
theorem has__law_right (c : SaysA cks dfs K) (Y : K.In h) (G : h.Ns mainGlobals mg) : Has R.prog w K mg base "_law_right" (defArgs (top 96)) ["pot"] 10 m__law_right := by
  obtain ⟨fd, F⟩ := fd__law_right c
  exact ⟨⟨_, fd, _, _, _, ckG_ok Y G (c.ck 99 (f := ckG "_law_right")), wk__law_right c Y G F, F⟩⟩
theorem fd__law_pot (c : SaysA cks dfs K) : ∃ fd, FunD K "_law_pot" "_law_pot" (defArgs (top 67)) (defBody (top 67)) (defScope (top 67)) [] [] (atG "_law_pot" K) fd := c.df 73 (d := d__law_pot)
theorem wk__law_pot (c : SaysA cks dfs K) (Y : K.In h) (G : h.Ns mainGlobals mg) {fd : FuncData} (F : FunD K "_law_pot" "_law_pot" (defArgs (top 67)) (defBody (top 67)) (defScope (top 67)) [] [] (atG "_law_pot" K) fd) : FnG R.prog w K mg base 1 (atG "_law_pot" K) fd ["script", "at"] (spOf K ["script", "at"].length m__law_pot) :=
  fnG_mk (k := 0) F sc__law_pot fun cdv A outer s H E hk tk po => by
  have nd := sc__law_pot.nd
  unfold b__law_pot
  exact (ws_cons (w_asg (w_ifE (wt_cmp op_lt cs_int (w_var 1) (w_callB cr_len sn_len (f_len c Y G) rfl (wa_cons (w_var 0) wa_nil))) (w_ix hk (w_var 0) (w_var 1)) (w_bin or_add (sn_add (b := false)) (w_bin or_add (sn_add (b := false)) (w_bin op_mod sn_mod (w_callB (cr_sum rfl) sn_sum (f_sum c Y G) rfl (wa_cons (w_slice false (w_var 0) wo_none (wo_some w_int)) wa_nil)) w_int) (w_bin or_mul sn_mul w_int (w_var 1))) w_int)) (wg_name 2 nd))
    (ws_cons (w_asg (w_bin or_mul sn_mul (w_bin op_mod sn_mod (w_callTy cr_int sn_intc (f_int c Y G) rfl (wa_cons (w_callB call_abs sn_abs (f_abs c Y G) rfl (wa_cons (w_var 2) wa_nil)) wa_nil)) (w_bin op_powW sn_pow (w_bin op_powW sn_pow w_int w_int) w_int)) (w_callTy cr_int sn_intc (f_int c Y G) rfl (wa_cons (w_cmp op_ge cs_int (w_callB call_abs sn_abs (f_abs c Y G) rfl (wa_cons (w_var 2) wa_nil)) (w_bin op_powW sn_pow w_int w_int)) wa_nil))) (wg_name 3 nd))
    (ws_cons (w_asg (w_bin op_mod sn_mod (w_callTy cr_int sn_intc (f_int c Y G) rfl (wa_cons (w_var 2) wa_nil)) w_int) (wg_name 4 nd))
    (ws_one (w_ret (w_lst true (wa_cons (w_var 3) (wa_cons (w_bin op_mod sn_mod (w_callTy cr_int sn_intc (f_int c Y G) rfl (wa_cons (w_bin or_add (sn_add (b := false)) (w_bin or_add (sn_add (b := false)) (w_bin or_mul sn_mul (w_var 4) w_int) (w_bin or_mul sn_mul (w_bin or_mul sn_mul w_int (w_var 1)) (w_var 1))) w_int) wa_nil)) w_int) (wa_cons w_int wa_nil)))))))))
theorem has__law_pot (c : SaysA cks dfs K) (Y : K.In h) (G : h.Ns mainGlobals mg) : Has R.prog w K mg base "_law_pot" (defArgs (top 67)) ["script", "at"] 1 m__law_pot := by
  obtain ⟨fd, F⟩ := fd__law_pot c
  exact ⟨⟨_, fd, _, _, _, ckG_ok Y G (c.ck 100 (f := ckG "_law_pot")), wk__law_pot c Y G F, F⟩⟩
theorem fd_law (c : SaysA cks dfs K) : ∃ fd, FunD K "law" "law" (defArgs (top 97)) (defBody (top 97)) (defScope (top 97)) [] [] (atG "law" K) fd := c.df 74 (d := d_law)
theorem wk_law (c : SaysA cks dfs K) (Y : K.In h) (G : h.Ns mainGlobals mg) {fd : FuncData} (F : FunD K "law" "law" (defArgs (top 97)) (defBody (top 97)) (defScope (top 97)) [] [] (atG "law" K) fd) : FnG R.prog w K mg base 11 (atG "law" K) fd ["script"] (spOf K ["script"].length m_law) :=
  fnG_mk (k := 10) F sc_law fun cdv A outer s H E hk tk po => by
  have nd := sc_law.nd
  unfold b_law
  exact (ws_one (w_ret (w_callB (cr_all rfl) sn_all (f_all c Y G) rfl (wa_cons (w_lc (own := [("at", 1)]) rfl nd (w_seq (w_call (has__law_cells c Y G) bp__law_cells (hk.mono (by decide)) tk (wa_cons (w_var 0) (wa_cons w_int wa_nil)))) (blkOk_by (by kernel_rfl)) (fun _ _ _ _ _ => (wgw_name 1 nd)) (fun _ _ _ _ _ => wts_nil) (fun _ _ _ _ _ => (w_call (has__law_right c Y G) bp__law_right ((Here.blk hk _ _ _ _ _).mono (by decide)) takes_none (wa_cons (w_call (has__law_pot c Y G) bp__law_pot ((Here.blk hk _ _ _ _ _).mono (by decide)) takes_none (wa_cons (w_var 0) (wa_cons (w_var 1) wa_nil))) wa_nil)))) wa_nil))))
theorem has_law (c : SaysA cks dfs K) (Y : K.In h) (G : h.Ns mainGlobals mg) : Has R.prog w K mg base "law" (defArgs (top 97)) ["script"] 11 m_law := by
  obtain ⟨fd, F⟩ := fd_law c
  exact ⟨⟨_, fd, _, _, _, ckG_ok Y G (c.ck 101 (f := ckG "law")), wk_law c Y G F, F⟩⟩
end
end K14w
/-! The end of the law, printed by gen.py. -/
namespace K14w
open PySem PySem.Spec PyProof.Rows L2 AM K14
theorem closes (hm : ∀ ns : List Int, ns.length ≤ 63 → (∀ z ∈ ns, Builtin.Int.intBits z ≤ 1048576) → LawIs m_law ns) : PySem.Challenge.rw_cordsatrest_k14_whole_what_pulls_leave_o.Holds := by
  w_on; o_law
  refine HandSHeadRun.head_any (r := PySem.W.OpenLaw.row PySem.Challenge.rw_cordsatrest_k14_whole_what_pulls_leave_o) (q := qv) (H := hkA) (ob := ob) (M := 40000) (loose := loose) (d := HandSHeadRun.topDef (PySem.W.OpenLaw.row PySem.Challenge.rw_cordsatrest_k14_whole_what_pulls_leave_o).prog 97) (kwd := []) ob_eq
    (by kernel_rfl) (fun s => by kernel_rfl) run (by kernel_rfl) (by kernel_rfl) (by kernel_rfl) (by rfl) (by first | assumption | decide +kernel) (by decide +kernel) ⟨rfl, rfl, rfl, rfl, rfl, by decide +kernel⟩ ?hw ?hc
  case hw => w_witness2
  case hc =>
    refine law_walk (l := PySem.Challenge.rw_cordsatrest_k14_whole_what_pulls_leave_o) (n := 63) (k := 11) (x := "script") (m := m_law) rfl (by decide) (by kernel_rfl) ⟨rfl, by decide, by decide⟩ ?F hm
    intro w mg fa h Y G hmg0
    obtain ⟨K, KX, c⟩ := Y
    have hmg : mg ("law" : PySem.Str) = some (.ref fa) := by
      have e : (HandSHeadRun.topDef (PySem.W.OpenLaw.row PySem.Challenge.rw_cordsatrest_k14_whole_what_pulls_leave_o).prog 97).name = ("law" : PySem.Str) := by kernel_rfl
      rw [← e]
      exact hmg0
    obtain ⟨fd, F⟩ := fd_law c
    have e := hmg.symm.trans (ckG_ok KX G (c.ck 101 (f := ckG "law")))
    cases e
    exact ⟨K, fd, KX, c.ck 128 (f := ckL), fun s v => FunD.bindsA (ps := ["script"]) F (fun kV doc pm an cdv ct us hl => bp_law "law" "law" _ _ kV doc pm an cdv ct us hl) s [v] rfl, fun base _ _ => wk_law (w := w) (base := base) c KX G F⟩
end K14w
/-! PU1: what the machine's words say, in plain rules. -/
namespace AM
open PySem PySem.Spec PyProof.Rows L2
noncomputable section
section
variable {α β : Type}
@[simp] theorem Out.bind_ok (a : α) (h : AH) (f : α → AH → Out β) : (Out.ok a h).bind f = f a h := rfl
@[simp] theorem Out.bind_bad (f : α → AH → Out β) : (Out.bad : Out α).bind f = .bad := rfl
@[simp] theorem Out.bind_exc (c : Str) (p : P) (h : AH) (f : α → AH → Out β) : (Out.exc c p h : Out α).bind f = .exc c p h := rfl
@[simp] theorem Out.toS_ok (a : α) (h : AH) (t : AM.Loc) (f : α → AH → OutS) : (Out.ok a h).toS t f = f a h := rfl
@[simp] theorem Out.toS_bad (t : AM.Loc) (f : α → AH → OutS) : (Out.bad : Out α).toS t f = .bad := rfl
@[simp] theorem Out.toS_exc (c : Str) (p : P) (h : AH) (t : AM.Loc) (f : α → AH → OutS) : (Out.exc c p h : Out α).toS t f = .exc c p t h := rfl
@[simp] theorem Out.calm_ok (a : α) (h : AH) : (Out.ok a h).calm = .ok a h := rfl
end
@[simp] theorem OutS.seq_nx (t : AM.Loc) (h : AH) (f : AM.Loc → AH → OutS) : (OutS.nx t h).seq f = f t h := rfl
@[simp] theorem OutS.seq_rt (p : P) (h : AH) (f : AM.Loc → AH → OutS) : (OutS.rt p h).seq f = .rt p h := rfl
@[simp] theorem OutS.seq_bad (f : AM.Loc → AH → OutS) : OutS.bad.seq f = .bad := rfl
@[simp] theorem eV_some {i : Nat} {t : AM.Loc} {h : AH} {p : P} (e : t[i]? = some (some p)) : eV i t h = .ok p h := by unfold eV; rw [e]
@[simp] theorem eC_at (p : P) (t : AM.Loc) (h : AH) : eC p t h = .ok p h := rfl
@[simp] theorem lN_at (t : AM.Loc) (h : AH) : lN t h = .ok [] h := rfl
@[simp] theorem lC_at (m : EM) (r : LM) (t : AM.Loc) (h : AH) : lC m r t h = (m t h).bind fun p h1 => (r t h1).bind fun ps h2 => .ok (p :: ps) h2 := rfl
@[simp] theorem sQ_at (a b : SM) (t : AM.Loc) (h : AH) : sQ a b t h = (a t h).seq b := rfl
@[simp] theorem sNx_at (t : AM.Loc) (h : AH) : sNx t h = .nx t h := rfl
@[simp] theorem sBad_at (t : AM.Loc) (h : AH) : sBad t h = .bad := rfl
@[simp] theorem sR_at (m : EM) (t : AM.Loc) (h : AH) : sR m t h = (m t h).toS t fun p h1 => .rt p h1 := rfl
@[simp] theorem sE_at (m : EM) (t : AM.Loc) (h : AH) : sE m t h = (m t h).toS t fun _ h1 => .nx t h1 := rfl
@[simp] theorem sIf_at (c : TM) (a b : SM) (t : AM.Loc) (h : AH) : sIf c a b t h = (c t h).toS t fun k h1 => if k = true then a t h1 else b t h1 := rfl
@[simp] theorem sA_at (m : EM) (g : GM) (t : AM.Loc) (h : AH) : sA m g t h = (m t h).toS t fun p h1 => match g p t h1 with
  | some th => .nx th.1 th.2
  | none => .bad := rfl
@[simp] theorem gN_at (i : Nat) (p : P) (t : AM.Loc) (h : AH) : gN i p t h = some (t.set i (some p), h) := rfl
@[simp] theorem sPar_at (i j : Nat) (a : LM) (t : AM.Loc) (h : AH) : sPar i j a t h = (a t h).toS t fun xs h1 => match xs with
  | [x, y] => .nx ((t.set i (some x)).set j (some y)) h1
  | _ => .bad := rfl
@[simp] theorem sPar3_at (i j l : Nat) (a : LM) (t : AM.Loc) (h : AH) : sPar3 i j l a t h = (a t h).toS t fun xs h1 => match xs with
  | [x, y, z] => .nx (((t.set i (some x)).set j (some y)).set l (some z)) h1
  | _ => .bad := rfl
@[simp] theorem eB_at (f : F2) (a b : EM) (t : AM.Loc) (h : AH) : eB f a b t h = (a t h).bind fun x h1 => (b t h1).bind fun y h2 => f x y h2 := rfl
@[simp] theorem eU_at (f : F1) (a : EM) (t : AM.Loc) (h : AH) : eU f a t h = (a t h).bind fun x h1 => f x h1 := rfl
@[simp] theorem eCB_at (f : FL) (a : LM) (t : AM.Loc) (h : AH) : eCB f a t h = (a t h).bind fun xs h1 => f xs h1 := rfl
@[simp] theorem eCall_at (n : Nat) (m : Fn) (a : LM) (t : AM.Loc) (h : AH) : eCall n m a t h = (a t h).bind fun xs h1 => if xs.length = n then m xs h1 else .bad := rfl
@[simp] theorem eIf_at (c : TM) (a b : EM) (t : AM.Loc) (h : AH) : eIf c a b t h = (c t h).bind fun k h1 => if k = true then a t h1 else b t h1 := rfl
@[simp] theorem eTup_at (a : LM) (t : AM.Loc) (h : AH) : eTup a t h = (a t h).bind fun xs h1 => if small xs.length = true then .ok (.tup xs) h1 else .bad := rfl
@[simp] theorem eLst_at (b : Bool) (a : LM) (t : AM.Loc) (h : AH) : eLst b a t h = (a t h).bind fun xs h1 => if small xs.length = true then mkL b xs h1 else .bad := rfl
@[simp] theorem mkL_false (xs : List P) (h : AH) : mkL false xs h = .ok (.lst xs) h := rfl
@[simp] theorem mkL_true (xs : List P) (h : AH) : mkL true xs h = .ok (.obj h.length) (h ++ [.lst xs]) := rfl
@[simp] theorem eAn_at (m r : EM) (t : AM.Loc) (h : AH) : eAn m r t h = (m t h).bind fun x h1 => match truthP h1 x with
  | some true => r t h1
  | some false => .ok x h1
  | none => .bad := rfl
@[simp] theorem eOr_at (m r : EM) (t : AM.Loc) (h : AH) : eOr m r t h = (m t h).bind fun x h1 => match truthP h1 x with
  | some false => r t h1
  | some true => .ok x h1
  | none => .bad := rfl
@[simp] theorem eNt_at (m : EM) (t : AM.Loc) (h : AH) : eNt m t h = (m t h).bind fun x h1 => match truthP h1 x with
  | some b => .ok (.bl (!b)) h1
  | none => .bad := rfl
@[simp] theorem eIsi_at (U : String) (m : EM) (t : AM.Loc) (h : AH) : eIsi U m t h = (m t h).bind fun p h1 => match tyP h1 p with
  | some T => .ok (.bl (tyB T U)) h1
  | none => .bad := rfl
@[simp] theorem tT_at (m : EM) (t : AM.Loc) (h : AH) : tT m t h = (m t h).bind fun p h1 => match truthP h1 p with
  | some b => .ok b h1
  | none => .bad := rfl
@[simp] theorem tNt_at (m : TM) (t : AM.Loc) (h : AH) : tNt m t h = (m t h).bind fun b h1 => .ok (!b) h1 := rfl
@[simp] theorem tAn_at (m r : TM) (t : AM.Loc) (h : AH) : tAn m r t h = (m t h).bind fun b h1 => if b = true then r t h1 else .ok false h1 := rfl
@[simp] theorem tOr_at (m r : TM) (t : AM.Loc) (h : AH) : AM.tOr m r t h = (m t h).bind fun b h1 => if b = true then .ok true h1 else r t h1 := rfl
@[simp] theorem tY_at (t : AM.Loc) (h : AH) : tY t h = .ok true h := rfl
@[simp] theorem tCp_at (f : CmpF) (a b : EM) (t : AM.Loc) (h : AH) : tCp f a b t h = (a t h).bind fun x h1 => (b t h1).bind fun y h2 => cmpV f x y h2 := rfl
@[simp] theorem eCmp_at (f : CmpF) (a b : EM) (t : AM.Loc) (h : AH) : eCmp f a b t h = (a t h).bind fun x h1 => (b t h1).bind fun y h2 => (cmpV f x y h2).bind fun k h3 => .ok (.bl k) h3 := rfl
@[simp] theorem tCh_at (f g : CmpF) (a b c : EM) (t : AM.Loc) (h : AH) : tCh f g a b c t h = (a t h).bind fun x h1 => (b t h1).bind fun y h2 => (cmpV f x y h2).bind fun k h3 => if k = true then (c t h3).bind fun z h4 => cmpV g y z h4 else .ok false h3 := rfl
@[simp] theorem eCh_at (f g : CmpF) (a b c : EM) (t : AM.Loc) (h : AH) : eCh f g a b c t h = (tCh f g a b c t h).bind fun k h1 => .ok (.bl k) h1 := rfl
theorem cmpV_some {f : CmpF} {p q : P} {h : AH} {k : Bool} (e : f p q h = some k) : cmpV f p q h = .ok k h := by unfold cmpV; rw [e]
@[simp] theorem cmp_lt (i j : Int) (h : AH) : cmpV ltP (.int i) (.int j) h = .ok (decide (i < j)) h := rfl
@[simp] theorem cmp_le (i j : Int) (h : AH) : cmpV leP (.int i) (.int j) h = .ok (decide (i ≤ j)) h := rfl
@[simp] theorem cmp_gt (i j : Int) (h : AH) : cmpV gtP (.int i) (.int j) h = .ok (decide (j < i)) h := rfl
@[simp] theorem cmp_ge (i j : Int) (h : AH) : cmpV geP (.int i) (.int j) h = .ok (decide (j ≤ i)) h := rfl
@[simp] theorem cmp_eq_str (x y : Str) (h : AH) : cmpV eqP (.str x) (.str y) h = .ok (x == y) h := rfl
@[simp] theorem cmp_ne_str (x y : Str) (h : AH) : cmpV neP (.str x) (.str y) h = .ok (!(x == y)) h := rfl
@[simp] theorem cmp_eq_int (i j : Int) (h : AH) : cmpV eqP (.int i) (.int j) h = .ok (i == j) h := rfl
@[simp] theorem cmp_ne_int (i j : Int) (h : AH) : cmpV neP (.int i) (.int j) h = .ok (!(i == j)) h := rfl
@[simp] theorem cmp_is_non (h : AH) : cmpV isP .non .non h = .ok true h := rfl
@[simp] theorem cmp_is_tup (xs : List P) (h : AH) : cmpV isP (.tup xs) .non h = .ok false h := rfl
@[simp] theorem cmp_is_int (i : Int) (h : AH) : cmpV isP (.int i) .non h = .ok false h := rfl
/-! truth, types -/
@[simp] theorem truth_bl (b : Bool) (h : AH) : truthP h (.bl b) = some b := rfl
@[simp] theorem truth_non (h : AH) : truthP h .non = some false := rfl
@[simp] theorem truth_int (i : Int) (h : AH) : truthP h (.int i) = some (i != 0) := rfl
@[simp] theorem truth_tup (xs : List P) (h : AH) : truthP h (.tup xs) = some (!xs.isEmpty) := rfl
@[simp] theorem truth_lst (xs : List P) (h : AH) : truthP h (.lst xs) = some (!xs.isEmpty) := rfl
@[simp] theorem ty_int (i : Int) (h : AH) : tyP h (.int i) = some "int" := rfl
@[simp] theorem ty_bl (b : Bool) (h : AH) : tyP h (.bl b) = some "bool" := rfl
@[simp] theorem ty_non (h : AH) : tyP h .non = some "NoneType" := rfl
@[simp] theorem ty_str (x : Str) (h : AH) : tyP h (.str x) = some "str" := rfl
@[simp] theorem ty_tup (xs : List P) (h : AH) : tyP h (.tup xs) = some "tuple" := rfl
@[simp] theorem ty_lst (xs : List P) (h : AH) : tyP h (.lst xs) = some "list" := rfl
/-! places -/
@[simp] theorem item_tup (xs : List P) (i : Int) (h : AH) : itemP (.tup xs) (.int i) h = match atI xs i with
  | some p => .ok p h
  | none => .bad := rfl
@[simp] theorem item_lst (xs : List P) (i : Int) (h : AH) : itemP (.lst xs) (.int i) h = match atI xs i with
  | some p => .ok p h
  | none => .bad := rfl
@[simp] theorem item_scr (xs : List P) (i : Int) (h : AH) : itemP (.scr xs) (.int i) h = match atI xs i with
  | some p => .ok p h
  | none => .bad := rfl
theorem atI_nat {α : Type} (xs : List α) (n : Nat) : atI xs (n : Int) = xs[n]? := by
  unfold atI ixN
  rw [if_pos (by omega)]
  by_cases l : n < xs.length
  · rw [if_pos (by omega)]
    simp
  · rw [if_neg (by omega)]
    simp
    omega
@[simp] theorem atI_0 {α : Type} (x : α) (xs : List α) : atI (x :: xs) 0 = some x := by have := atI_nat (x :: xs) 0; simpa using this
@[simp] theorem atI_1 {α : Type} (x y : α) (xs : List α) : atI (x :: y :: xs) 1 = some y := by have := atI_nat (x :: y :: xs) 1; simpa using this
@[simp] theorem atI_2 {α : Type} (x y z : α) (xs : List α) : atI (x :: y :: z :: xs) 2 = some z := by have := atI_nat (x :: y :: z :: xs) 2; simpa using this
/-! numbers -/
@[simp] theorem v_sub (i j : Int) (h : AH) : vSub (.int i) (.int j) h = .ok (.int (i - j)) h := rfl
@[simp] theorem v_neg (i : Int) (h : AH) : vNeg (.int i) h = .ok (.int (-i)) h := rfl
@[simp] theorem v_add (b : Bool) (i j : Int) (h : AH) : vAdd b (.int i) (.int j) h = .ok (.int (i + j)) h := rfl
@[simp] theorem v_mod {i j : Int} (h : AH) (l : 0 < j) : vMod (.int i) (.int j) h = .ok (.int (i % j)) h := by
  show (if decide (0 < j) = true then Out.ok (P.int (i % j)) h else .bad) = _
  rw [if_pos (decide_eq_true l)]
@[simp] theorem f_abs (i : Int) (h : AH) : fAbs [.int i] h = .ok (.int (i.natAbs : Nat)) h := by
  show Out.ok (P.int (if i < 0 then -i else i)) h = _
  congr 2
  split <;> omega
@[simp] theorem f_len_tup (xs : List P) (h : AH) : fLen [.tup xs] h = .ok (.int (xs.length : Nat)) h := rfl
@[simp] theorem f_len_lst (xs : List P) (h : AH) : fLen [.lst xs] h = .ok (.int (xs.length : Nat)) h := rfl
@[simp] theorem f_len_scr (xs : List P) (h : AH) : fLen [.scr xs] h = .ok (.int (xs.length : Nat)) h := rfl
@[simp] theorem f_tup_lst (xs : List P) (h : AH) : fTup [.lst xs] h = .ok (.tup xs) h := rfl
@[simp] theorem f_tup_tup (xs : List P) (h : AH) : fTup [.tup xs] h = .ok (.tup xs) h := rfl
theorem boolsOf_map : ∀ (bs : List Bool), boolsOf (bs.map P.bl) = some bs
  | [] => rfl
  | b :: bs => by
    show (boolsOf (bs.map P.bl)).map (b :: ·) = _
    rw [boolsOf_map bs]
    rfl
@[simp] theorem f_all (bs : List Bool) (h : AH) : fAll [.lst (bs.map P.bl)] h = .ok (.bl (bs.all id)) h := by
  show (match (boolsOf (bs.map P.bl)) with
    | some bs => Out.ok (P.bl (bs.all id)) h
    | none => .bad) = _
  rw [boolsOf_map]
@[simp] theorem f_any (bs : List Bool) (h : AH) : fAny [.lst (bs.map P.bl)] h = .ok (.bl (bs.any id)) h := by
  show (match (boolsOf (bs.map P.bl)) with
    | some bs => Out.ok (P.bl (bs.any id)) h
    | none => .bad) = _
  rw [boolsOf_map]
/-- bits -/
theorem log2_lt {n b : Nat} (hb : 0 < b) (h : n < 2 ^ b) : n.log2 < b := by
  by_cases e : n = 0
  · subst e
    have z : Nat.log2 0 = 0 := by decide
    rw [z]
    exact hb
  · exact (Nat.log2_lt e).mpr h
theorem v_mul {i j : Int} (h : AH) (l : mulOk i j = true) : vMul (.int i) (.int j) h = .ok (.int (i * j)) h := by
  show (match (if mulOk i j = true then Out.ok (P.int (i * j)) h else .bad) with
    | .bad => vMulT (.int i) (.int j) h
    | o => o) = _
  rw [if_pos l]
theorem v_div {i j : Int} (h : AH) (l : 0 < j) (m : j.natAbs.log2 < 9000) : vDiv (.int i) (.int j) h = .ok (.int (i / j)) h := by
  show (if divOk i j = true then Out.ok (P.int (i / j)) h else .bad) = _
  rw [if_pos (by unfold divOk; rw [decide_eq_true l, decide_eq_true m]; rfl)]
/-! lists of slots -/
@[simp] theorem still_none (xs : List P) (h0 h : AH) : Src.still ⟨xs, []⟩ h0 h ↔ True := by unfold Src.still; simp
@[simp] theorem small_true {n : Nat} (h : n ≤ 16777216) : small n = true := decide_eq_true h
end
end AM

/-! PU2: loops, comprehensions, defs. -/
namespace AM
open PySem PySem.Spec PyProof.Rows L2
noncomputable section
/-! ### defs -/
theorem fn_rt {ns : Nat} {b : SM} {xs : List P} {h : AH} {p : P} {j : AH} (e : b (xs.map some ++ List.replicate (ns - xs.length) none) h = .rt p (h ++ j)) (c : clean h.length p = true) : mkFn ns b xs h = .ok p h := by
  unfold mkFn
  rw [e]
  show Out.ok p (trim h p (h ++ j)) = _
  rw [trim_app c]
theorem fn_rt0 {ns : Nat} {b : SM} {xs : List P} {h : AH} {p : P} (e : b (xs.map some ++ List.replicate (ns - xs.length) none) h = .rt p h) : mkFn ns b xs h = .ok p h := by
  unfold mkFn
  rw [e]
  show Out.ok p (trim h p h) = _
  rw [trim_self]
theorem fn_nx {ns : Nat} {b : SM} {xs : List P} {h : AH} {t : AM.Loc} {j : AH} (e : b (xs.map some ++ List.replicate (ns - xs.length) none) h = .nx t (h ++ j)) : mkFn ns b xs h = .ok .non h := by
  unfold mkFn
  rw [e]
  show Out.ok P.non (trim h .non (h ++ j)) = _
  rw [trim_app rfl]
theorem fn_nx0 {ns : Nat} {b : SM} {xs : List P} {h : AH} {t : AM.Loc} (e : b (xs.map some ++ List.replicate (ns - xs.length) none) h = .nx t h) : mkFn ns b xs h = .ok .non h := fn_nx (j := []) (by simpa using e)
/-! ### what holds no object -/
theorem clean_any {p : P} (c : clean 0 p = true) (n : Nat) : clean n p = true := clean_mono (Nat.zero_le n) c
theorem cleans_any {p : List P} (c : cleans 0 p = true) (n : Nat) : cleans n p = true := cleans_mono (Nat.zero_le n) c
theorem cleans_all {n : Nat} : ∀ {ps : List P}, (∀ p ∈ ps, clean n p = true) → cleans n ps = true
  | [], _ => rfl
  | p :: ps, h => by
    show (clean n p && cleans n ps) = true
    rw [h p (List.mem_cons_self ..), cleans_all fun q hq => h q (List.mem_cons_of_mem _ hq)]
    rfl
/-! ### comprehensions -/
theorem lcok_app {n : Nat} {acc : List P} {h j : AH} (l : h.length = n) : LcOk n acc h (h ++ [.lst acc] ++ j) := by
  refine ⟨?_, shut_app _ _⟩
  rw [List.append_assoc, List.getElem?_append_right (by omega), l]
  simp
theorem lcok_self {n : Nat} {acc : List P} {h : AH} (l : h.length = n) : LcOk n acc h (h ++ [.lst acc]) := by simpa using lcok_app (j := []) l
/-- a comprehension whose items leave the heap as it is, but for new objects of no use -/
theorem lc_run {α : Type} {S : Src} {h : AH} {g : GM} {c : TM} {e : EM} {t : AM.Loc} (k : α → P) (f : α → Option P) (hS : ∀ acc, S.still h (h ++ [.lst acc])) :
    ∀ {ys : List α} {acc : List P}, (∀ y ∈ ys, ∀ acc : List P, ∃ t1, g (k y) t (h ++ [.lst acc]) = some (t1, h ++ [.lst acc]) ∧
      match f y with
      | none => ∃ j, c t1 (h ++ [.lst acc]) = .ok false (h ++ [.lst acc] ++ j)
      | some q => ∃ j l, c t1 (h ++ [.lst acc]) = .ok true (h ++ [.lst acc] ++ j) ∧ e t1 (h ++ [.lst acc] ++ j) = .ok q (h ++ [.lst acc] ++ l) ∧ clean h.length q = true) →
    acc.length + ys.length ≤ 16777216 → lcF S h g c e t (ys.map k) acc h = .ok (.lst (acc ++ ys.filterMap f)) h
  | [], acc, _, _ => by
    show lcF S h g c e t [] acc h = _
    unfold lcF
    rw [if_pos ⟨hS acc, shut_app _ _⟩]
    simp
  | y :: ys, acc, H, L => by
    have L' : acc.length + (ys.length + 1) ≤ 16777216 := L
    obtain ⟨t1, e1, e2⟩ := H y (List.mem_cons_self ..) acc
    have tk : ∀ j : AH, (h ++ [O.lst acc] ++ j).take h.length = h := fun j => by rw [List.append_assoc]; simp
    show lcF S h g c e t (k y :: ys.map k) acc h = _
    unfold lcF
    rw [if_pos (hS acc), e1]
    dsimp only
    cases q : f y with
    | none =>
      rw [q] at e2
      obtain ⟨j, e3⟩ := e2
      rw [e3]
      dsimp only
      rw [if_pos (lcok_app rfl), tk, lc_run k f hS (fun p hp => H p (List.mem_cons_of_mem _ hp)) (by omega), List.filterMap_cons, q]
    | some r =>
      rw [q] at e2
      obtain ⟨j, l, e3, e4, e5⟩ := e2
      rw [e3]
      dsimp only
      rw [e4]
      dsimp only
      rw [if_pos ⟨lcok_app rfl, e5, by omega⟩, tk, lc_run k f hS (fun p hp => H p (List.mem_cons_of_mem _ hp)) (by simp; omega), List.filterMap_cons, q]
      simp
/-- .. as a map -/
theorem lc_map {α : Type} {ys : List α} {h : AH} {g : GM} {e : EM} {t : AM.Loc} (k f : α → P) (L : ys.length ≤ 16777216) (H : ∀ y ∈ ys, ∀ acc : List P, ∃ t1 j, g (k y) t (h ++ [.lst acc]) = some (t1, h ++ [.lst acc]) ∧ e t1 (h ++ [.lst acc]) = .ok (f y) (h ++ [.lst acc] ++ j) ∧ clean h.length (f y) = true) :
    lcF ⟨ys.map k, []⟩ h g tY e t (ys.map k) [] h = .ok (.lst (ys.map f)) h := by
  rw [lc_run k (fun p => some (f p)) (fun acc => (still_none _ _ _).mpr trivial) (fun p hp acc => ?_) (by simpa using L)]
  · simp
  · obtain ⟨t1, j, e1, e2, e3⟩ := H p hp acc
    exact ⟨t1, e1, [], j, by simp, by simpa using e2, e3⟩
/-- .. in which no heap is touched -/
theorem lc_map0 {α : Type} {ys : List α} {h : AH} {g : GM} {e : EM} {t : AM.Loc} (k f : α → P) (L : ys.length ≤ 16777216) (H : ∀ y ∈ ys, ∀ hh : AH, ∃ t1, g (k y) t hh = some (t1, hh) ∧ e t1 hh = .ok (f y) hh ∧ clean h.length (f y) = true) :
    lcF ⟨ys.map k, []⟩ h g tY e t (ys.map k) [] h = .ok (.lst (ys.map f)) h := lc_map k f L fun y hy acc => by
  obtain ⟨t1, e1, e2, e3⟩ := H y hy (h ++ [.lst acc])
  exact ⟨t1, [], e1, by simpa using e2, e3⟩
@[simp] theorem gT2 (r : GMs) (a b : P) (t : AM.Loc) (h : AH) : gT 2 r (.tup [a, b]) t h = r [a, b] t h := rfl
@[simp] theorem gT3 (r : GMs) (a b c : P) (t : AM.Loc) (h : AH) : gT 3 r (.tup [a, b, c]) t h = r [a, b, c] t h := rfl
@[simp] theorem gU2 (r : GMs) (a b : P) (t : AM.Loc) (h : AH) : gU 2 r (.tup [a, b]) t h = r [a, b] t h := rfl
theorem eLc_at (i : IM) (vs : List Nat) (g : GM) (c : TM) (e : EM) (t : AM.Loc) (h : AH) : eLc i vs g c e t h = (i t h).bind fun S h1 => lcF S h1 g c e (wipeL t vs) S.xs [] h1 := rfl
@[simp] theorem iSeq_at (m : EM) (t : AM.Loc) (h : AH) : iSeq m t h = (m t h).bind srcSeq := rfl
@[simp] theorem iZp_at (a : LM) (t : AM.Loc) (h : AH) : iZp a t h = (a t h).bind srcZp := rfl
@[simp] theorem iEn_at (a : LM) (t : AM.Loc) (h : AH) : iEn a t h = (a t h).bind srcEn := rfl
@[simp] theorem iRg1_at (a : LM) (t : AM.Loc) (h : AH) : iRg1 a t h = (a t h).bind srcR1 := rfl
@[simp] theorem src_tup (xs : List P) (h : AH) : srcSeq (.tup xs) h = .ok ⟨xs, []⟩ h := rfl
@[simp] theorem src_lst (xs : List P) (h : AH) : srcSeq (.lst xs) h = .ok ⟨xs, []⟩ h := rfl
@[simp] theorem src_str (x : Str) (h : AH) : srcSeq (.str x) h = .ok ⟨x.cps.toList.map fun c => P.str ⟨#[c]⟩, []⟩ h := rfl
@[simp] theorem src_zip_tup (xs ys : List P) (h : AH) : srcZp [.tup xs, .tup ys] h = .ok ⟨zipP xs ys, []⟩ h := rfl
@[simp] theorem src_zip_lst (xs ys : List P) (h : AH) : srcZp [.lst xs, .lst ys] h = .ok ⟨zipP xs ys, []⟩ h := rfl
@[simp] theorem src_en_tup (xs : List P) (h : AH) : srcEn [.tup xs] h = .ok ⟨enumP 0 xs, []⟩ h := rfl
@[simp] theorem src_en_lst (xs : List P) (h : AH) : srcEn [.lst xs] h = .ok ⟨enumP 0 xs, []⟩ h := rfl
@[simp] theorem wipeL_nil (t : AM.Loc) : wipeL t [] = t := rfl
@[simp] theorem wipeL_cons (t : AM.Loc) (v : Nat) (vs : List Nat) : wipeL t (v :: vs) = (wipeL t vs).set v none := rfl
theorem gT_at (n : Nat) (r : GMs) (xs : List P) (t : AM.Loc) (h : AH) (l : xs.length = n) : gT n r (.tup xs) t h = r xs t h := by
  show (if xs.length = n then r xs t h else none) = _
  rw [if_pos l]
@[simp] theorem gsC_at (g : GM) (r : GMs) (p : P) (ps : List P) (t : AM.Loc) (h : AH) : gsC g r (p :: ps) t h = (g p t h).bind fun th => r ps th.1 th.2 := rfl
@[simp] theorem gsN_at (t : AM.Loc) (h : AH) : gsN [] t h = some (t, h) := rfl
/-! ### for -/
/-- a loop whose turns come to an end with the slots and heap that a relation tells -/
theorem for_run {S : Src} {h0 : AH} {g : GM} {b : SM} (R : List P → AM.Loc → AH → Prop) (hS : ∀ xs t h, R xs t h → S.still h0 h)
    (hc : ∀ p ps t h, R (p :: ps) t h → ∃ t1 h1 t2 h2, g p t h = some (t1, h1) ∧ (b t1 h1 = .nx t2 h2 ∨ b t1 h1 = .ct t2 h2) ∧ R ps t2 h2) :
    ∀ {xs : List P} {t : AM.Loc} {h : AH}, R xs t h → ∃ t2 h2, R [] t2 h2 ∧ forP S h0 g b xs t h = .nx t2 h2
  | [], t, h, r => ⟨t, h, r, by unfold forP; rw [if_pos (hS _ _ _ r)]⟩
  | p :: xs, t, h, r => by
    obtain ⟨t1, h1, t2, h2, e1, e2, r2⟩ := hc p xs t h r
    obtain ⟨t3, h3, r3, e3⟩ := for_run R hS hc r2
    refine ⟨t3, h3, r3, ?_⟩
    unfold forP
    rw [if_pos (hS _ _ _ r), e1]
    dsimp only
    rcases e2 with e2 | e2
    · rw [e2]
      exact e3
    · rw [e2]
      exact e3
@[simp] theorem sFor_at (i : IM) (g : GM) (b : SM) (t : AM.Loc) (h : AH) : sFor i g b t h = (i t h).toS t fun S h1 => forP S h1 g b S.xs t h1 := rfl
/-! ### while -/
theorem while_run {c : TM} {b : SM} (R : Nat → AM.Loc → AH → Prop) (hc : ∀ n t h, R n t h → (∃ h1, c t h = .ok false h1 ∧ h1 = h ∧ n = 0) ∨ ∃ h1 t2 h2 m, c t h = .ok true h1 ∧ (b t h1 = .nx t2 h2 ∨ b t h1 = .ct t2 h2) ∧ m < n ∧ R m t2 h2) :
    ∀ (n : Nat) {t : AM.Loc} {h : AH}, R n t h → ∃ t2 h2, R 0 t2 h2 ∧ c t2 h2 = .ok false h2 ∧ sWhile c b t h = .nx t2 h2 := by
  have main : ∀ (n : Nat) {t : AM.Loc} {h : AH}, R n t h → ∃ k t2 h2, R 0 t2 h2 ∧ c t2 h2 = .ok false h2 ∧ whN c b k t h = .nx t2 h2 := by
    intro n
    induction n using Nat.strongRecOn with
    | _ n ih =>
      intro t h r
      rcases hc n t h r with ⟨h1, e, rfl, rfl⟩ | ⟨h1, t2, h2, m, e, e2, l, r2⟩
      · refine ⟨1, t, h1, r, e, ?_⟩
        unfold whN
        rw [e]
        rfl
      · obtain ⟨k, t3, h3, r3, e3, e4⟩ := ih m l r2
        refine ⟨k + 1, t3, h3, r3, e3, ?_⟩
        unfold whN
        rw [e]
        show (b t h1).turn (whN c b k) = _
        rcases e2 with e2 | e2
        · rw [e2]
          exact e4
        · rw [e2]
          exact e4
  intro n t h r
  obtain ⟨k, t2, h2, r2, e, e2⟩ := main n r
  refine ⟨t2, h2, r2, e, ?_⟩
  rw [sWhile_at (n := k) (by rw [e2]; exact fun z => by cases z), e2]
end
end AM

/-! PU3: fractions in plain Lean. -/
namespace AM
open PySem PySem.Spec PyProof.Rows L2
abbrev Fr := Int × Int
def ratP (x : Fr) : P := .tup [.int x.1, .int x.2]
def rowP (r : List Fr) : P := .tup (r.map ratP)
def fr (a b : Int) : Fr := (a / (Int.gcd a b : Nat), b / (Int.gcd a b : Nat))
structure FrOk (n : Nat) (x : Fr) : Prop where
  pos : 0 < x.2
  top : x.1.natAbs < 2 ^ n
  bot : x.2.natAbs < 2 ^ n
  low : Int.gcd x.1 x.2 = 1
def plusF (x y : Fr) : Fr := fr (x.1 * y.2 + y.1 * x.2) (x.2 * y.2)
def lessF (x y : Fr) : Fr := fr (x.1 * y.2 - y.1 * x.2) (x.2 * y.2)
def timesF (x y : Fr) : Fr := fr (x.1 * y.1) (x.2 * y.2)
def belowF (x y : Fr) : Bool := decide (x.1 * y.2 < y.1 * x.2)
def totalF (r : List Fr) : Fr := r.foldl plusF (0, 1)
def zipF (f : Fr → Fr → Fr) (r s : List Fr) : List Fr := (r.zip s).map fun z => f z.1 z.2
def rowPlus (r s : List Fr) : List Fr := zipF plusF r s
def rowLess (r s : List Fr) : List Fr := zipF lessF r s
def rowTimes (r : List Fr) (b : Fr) : List Fr := r.map fun x => timesF x b
def rowProd (r s : List Fr) : Fr := totalF (zipF timesF r s)
def rowSq (r : List Fr) : Fr := rowProd r r
def RowOk (n : Nat) (r : List Fr) : Prop := ∀ x ∈ r, FrOk n x
theorem FrOk.mono {n m : Nat} {x : Fr} (h : FrOk n x) (l : n ≤ m) : FrOk m x := by
  have z : 2 ^ n ≤ 2 ^ m := Nat.pow_le_pow_right (by omega) l
  exact ⟨h.pos, Nat.lt_of_lt_of_le h.top z, Nat.lt_of_lt_of_le h.bot z, h.low⟩
theorem RowOk.mono {n m : Nat} {r : List Fr} (h : RowOk n r) (l : n ≤ m) : RowOk m r := fun x hx => (h x hx).mono l
theorem log2_le {n b : Nat} (h : n < 2 ^ b) : n.log2 ≤ b := by
  by_cases e : n = 0
  · subst e
    have z : Nat.log2 0 = 0 := by decide
    rw [z]
    omega
  · exact Nat.le_of_lt ((Nat.log2_lt e).mpr h)
theorem mulOk_of {i j : Int} {n m : Nat} (hi : i.natAbs < 2 ^ n) (hj : j.natAbs < 2 ^ m) (l : n + m < 1000000) : mulOk i j = true := by
  have a := log2_le hi
  have b := log2_le hj
  exact decide_eq_true (by omega)
theorem mul_lt {a b n m : Nat} (ha : a < 2 ^ n) (hb : b < 2 ^ m) : a * b < 2 ^ (n + m) := by
  rw [Nat.pow_add]
  exact Nat.mul_lt_mul'' ha hb
theorem fr_ok {a b : Int} {n : Nat} (hb : 0 < b) (ha : a.natAbs < 2 ^ n) (hb2 : b.natAbs < 2 ^ n) : FrOk n (fr a b) := by
  have g0 : 0 < Int.gcd a b := Int.gcd_pos_of_ne_zero_right _ (by omega)
  have d1 : (Int.gcd a b : Int) ∣ a := Int.gcd_dvd_left ..
  have d2 : (Int.gcd a b : Int) ∣ b := Int.gcd_dvd_right ..
  unfold fr
  refine ⟨?_, ?_, ?_, ?_⟩
  · exact Int.ediv_pos_of_pos_of_dvd hb (by omega) d2
  · rw [Int.natAbs_ediv_of_dvd d1]
    exact Nat.lt_of_le_of_lt (Nat.div_le_self _ _) ha
  · rw [Int.natAbs_ediv_of_dvd d2]
    exact Nat.lt_of_le_of_lt (Nat.div_le_self _ _) hb2
  · exact Int.gcd_ediv_gcd_ediv_gcd g0
theorem FrOk.plus {n m : Nat} {x y : Fr} (hx : FrOk n x) (hy : FrOk m y) : FrOk (n + m + 1) (plusF x y) := by
  have e1 := mul_lt hx.top hy.bot
  have e2 := mul_lt hy.top hx.bot
  have e3 := mul_lt hx.bot hy.bot
  rw [Nat.add_comm m n] at e2
  refine fr_ok (Int.mul_pos hx.pos hy.pos) ?_ ?_
  · have z := Int.natAbs_add_le (x.1 * y.2) (y.1 * x.2)
    rw [Int.natAbs_mul, Int.natAbs_mul] at z
    rw [Nat.pow_succ]
    omega
  · rw [Int.natAbs_mul, Nat.pow_succ]
    omega
theorem FrOk.less {n m : Nat} {x y : Fr} (hx : FrOk n x) (hy : FrOk m y) : FrOk (n + m + 1) (lessF x y) := by
  have e1 := mul_lt hx.top hy.bot
  have e2 := mul_lt hy.top hx.bot
  have e3 := mul_lt hx.bot hy.bot
  rw [Nat.add_comm m n] at e2
  refine fr_ok (Int.mul_pos hx.pos hy.pos) ?_ ?_
  · have z := Int.natAbs_sub_le (x.1 * y.2) (y.1 * x.2)
    rw [Int.natAbs_mul, Int.natAbs_mul] at z
    rw [Nat.pow_succ]
    omega
  · rw [Int.natAbs_mul, Nat.pow_succ]
    omega
theorem FrOk.times {n m : Nat} {x y : Fr} (hx : FrOk n x) (hy : FrOk m y) : FrOk (n + m) (timesF x y) := by
  have e1 := mul_lt hx.top hy.top
  have e3 := mul_lt hx.bot hy.bot
  refine fr_ok (Int.mul_pos hx.pos hy.pos) ?_ ?_
  · rw [Int.natAbs_mul]
    exact e1
  · rw [Int.natAbs_mul]
    exact e3
theorem nought_ok : FrOk 1 (0, 1) := ⟨by decide, by decide, by decide, by decide⟩
theorem foldl_ok {n : Nat} : ∀ {r : List Fr} {m : Nat} {x : Fr}, FrOk m x → RowOk n r → FrOk (m + r.length * (n + 1)) (r.foldl plusF x)
  | [], m, x, h, _ => by simpa using h
  | y :: r, m, x, h, k => by
    have z := foldl_ok (n := n) (r := r) (h.plus (k y (List.mem_cons_self ..))) fun q hq => k q (List.mem_cons_of_mem _ hq)
    refine z.mono ?_
    rw [List.length_cons, Nat.succ_mul]
    omega
theorem total_ok {n : Nat} {r : List Fr} (h : RowOk n r) : FrOk (1 + r.length * (n + 1)) (totalF r) := foldl_ok nought_ok h
theorem zipWith_ok {n m k : Nat} {f : Fr → Fr → Fr} {r s : List Fr} (hr : RowOk n r) (hs : RowOk m s) (hf : ∀ x y, FrOk n x → FrOk m y → FrOk k (f x y)) : RowOk k (zipF f r s) := by
  intro x hx
  obtain ⟨⟨a, b⟩, hab, rfl⟩ := List.mem_map.mp hx
  have := List.of_mem_zip hab
  exact hf a b (hr a this.1) (hs b this.2)
theorem RowOk.plus {n m : Nat} {r s : List Fr} (hr : RowOk n r) (hs : RowOk m s) : RowOk (n + m + 1) (rowPlus r s) := zipWith_ok hr hs fun _ _ a b => a.plus b
theorem RowOk.less {n m : Nat} {r s : List Fr} (hr : RowOk n r) (hs : RowOk m s) : RowOk (n + m + 1) (rowLess r s) := zipWith_ok hr hs fun _ _ a b => a.less b
theorem RowOk.times {n m : Nat} {r : List Fr} {b : Fr} (hr : RowOk n r) (hb : FrOk m b) : RowOk (n + m) (rowTimes r b) := by
  intro x hx
  obtain ⟨a, ha, rfl⟩ := List.mem_map.mp hx
  exact (hr a ha).times hb
theorem rowProd_ok {n m : Nat} {r s : List Fr} (hr : RowOk n r) (hs : RowOk m s) : FrOk (1 + r.length * (n + m + 1)) (rowProd r s) := by
  refine (total_ok (zipWith_ok hr hs fun _ _ a b => a.times b)).mono ?_
  unfold zipF
  rw [List.length_map, List.length_zip]
  have : min r.length s.length * (n + m + 1) ≤ r.length * (n + m + 1) := Nat.mul_le_mul_right _ (Nat.min_le_left _ _)
  omega
theorem zipP_map {α β : Type} (f : α → P) (g : β → P) : ∀ (r : List α) (s : List β), zipP (r.map f) (s.map g) = (r.zip s).map fun xy => .tup [f xy.1, g xy.2]
  | [], _ => by simp [zipP]
  | _ :: _, [] => by simp [zipP]
  | x :: r, y :: s => by
    rw [List.map_cons, List.map_cons, List.zip_cons_cons, List.map_cons]
    show _ :: zipP (r.map f) (s.map g) = _
    rw [zipP_map f g r s]
theorem clean_rat (n : Nat) (x : Fr) : clean n (ratP x) = true := rfl
theorem clean_row (n : Nat) (r : List Fr) : clean n (rowP r) = true := by
  show cleans n (r.map ratP) = true
  refine cleans_all fun p hp => ?_
  obtain ⟨x, _, rfl⟩ := List.mem_map.mp hp
  rfl
theorem row_len (r : List Fr) : (r.map ratP).length = r.length := List.length_map ..
end AM

/-! PU4: texts in plain rules. -/
namespace AM
open PySem PySem.Spec PyProof.Rows L2
noncomputable section
theorem slice_str {b : Bool} {w : Str} {lo hi : Option Int} {h : AH} (l : w.length ≤ 16777216) : sliceP b (.str w) lo hi h = .ok (.str (cutS w lo hi)) h := by
  show (if small w.length = true then Out.ok (P.str (cutS w lo hi)) h else .bad) = _
  rw [if_pos (small_true l)]
theorem len_str {w : Str} {h : AH} (l : w.length ≤ 16777216) : fLen [.str w] h = .ok (.int (w.length : Nat)) h := by
  show (if small w.length = true then Out.ok (P.int (w.length : Nat)) h else .bad) = _
  rw [if_pos (small_true l)]
theorem item_str {w : Str} {i : Int} {c : Nat} {h : AH} (l : w.length ≤ 16777216) (e : atI w.cps.toList i = some c) : itemP (.str w) (.int i) h = .ok (.str ⟨#[c]⟩) h := by
  show (if small w.length = true then (match atI w.cps.toList i with
      | some c => Out.ok (P.str ⟨#[c]⟩) h
      | none => .bad) else .bad) = _
  rw [if_pos (small_true l), e]
def inStr (x y : Str) : Bool := !(Builtin.Str.occurrences y x 0 y.length 1).isEmpty
@[simp] theorem cmp_in_str (x y : Str) (h : AH) : cmpV inP (.str x) (.str y) h = .ok (inStr x y) h := rfl
@[simp] theorem eSlice_at (b : Bool) (m : EM) (lo hi : OM) (t : AM.Loc) (h : AH) : eSlice b m lo hi t h = (m t h).bind fun x h1 => (lo t h1).bind fun l h2 => (hi t h2).bind fun u h3 => sliceP b x l u h3 := rfl
@[simp] theorem oN_at (t : AM.Loc) (h : AH) : oN t h = .ok none h := rfl
@[simp] theorem oS_at (m : EM) (t : AM.Loc) (h : AH) : oS m t h = (m t h).bind fun p h1 => match p with
  | .int i => .ok (some i) h1
  | _ => .bad := rfl
@[simp] theorem slice_tup (b : Bool) (xs : List P) (lo hi : Option Int) (h : AH) : sliceP b (.tup xs) lo hi h = .ok (.tup (cutP xs lo hi)) h := rfl
@[simp] theorem slice_lst (b : Bool) (xs : List P) (lo hi : Option Int) (h : AH) : sliceP b (.lst xs) lo hi h = mkL b (cutP xs lo hi) h := rfl
@[simp] theorem eM1_at (f : F2) (a b : EM) (t : AM.Loc) (h : AH) : eM1 f a b t h = (a t h).bind fun x h1 => match x with
  | .str _ => (b t h1).bind fun y h2 => f x y h2
  | _ => .bad := rfl
theorem split_str {b : Bool} {w c : Str} {h : AH} (l : w.length + 2 ≤ 16777216) (k : (c.length == 0) = false) : fSplit b (.str w) (.str c) h = mkL b ((Txt.split w c).map P.str) h := by
  show (if (c.length == 0) = false ∧ w.length + 2 ≤ 16777216 then mkL b ((Txt.split w c).map P.str) h else .bad) = _
  rw [if_pos ⟨k, l⟩]
theorem int_str {w : Str} {n : Int} {h : AH} (e : PySem.intText? w = some n) (l : w.length ≤ 640) : fInt [.str w] h = .ok (.int n) h := by
  show (match PySem.intText? w with
    | some n => if w.length ≤ 640 then Out.ok (P.int n) h else .bad
    | none => .bad) = _
  rw [e]
  show (if w.length ≤ 640 then Out.ok (P.int n) h else .bad) = _
  rw [if_pos l]
/-- cuts of texts and lists -/
theorem cutP_from (xs : List P) (n : Nat) : cutP xs (some (n : Int)) none = xs.drop n := by
  unfold cutP
  have e1 : HT.sIx xs.length 0 (some (n : Int)) = min n xs.length := by
    unfold HT.sIx
    simp
    omega
  have e2 : HT.sIx xs.length xs.length none = xs.length := rfl
  rw [e1, e2]
  by_cases l : n ≤ xs.length
  · rw [Nat.min_eq_left l]
    rw [List.take_of_length_le]
    rw [List.length_drop]
    omega
  · rw [Nat.min_eq_right (by omega), List.drop_eq_nil_of_le (Nat.le_refl _), List.drop_eq_nil_of_le (by omega)]
    simp
theorem cutP_upto (xs : List P) (n : Nat) : cutP xs none (some (n : Int)) = xs.take n := by
  unfold cutP
  have e1 : HT.sIx xs.length 0 none = 0 := rfl
  have e2 : HT.sIx xs.length xs.length (some (n : Int)) = min n xs.length := by
    unfold HT.sIx
    simp
    omega
  rw [e1, e2, List.drop_zero, Nat.sub_zero]
  by_cases l : n ≤ xs.length
  · rw [Nat.min_eq_left l]
  · rw [Nat.min_eq_right (by omega), List.take_of_length_le (Nat.le_refl _), List.take_of_length_le (by omega)]
/-- a whole number's text -/
def figs (w : Str) : Str := if cutS w none (some 1) = ("-" : Str) then cutS w (some 1) none else w
def figsOk (f : Str) : Bool := decide (1 ≤ (f.length : Int)) && decide ((f.length : Int) ≤ 4000) && (f.cps.toList.map fun c => inStr ⟨#[c]⟩ "0123456789").all id
def zeroBad (w : Str) : Bool := match atI (figs w).cps.toList 0 with
  | some c => (⟨#[c]⟩ : Str) == "0" && !(w == ("0" : Str))
  | none => false
def wholeO (w : Str) : Option Int := if figsOk (figs w) = true ∧ zeroBad w = false then PySem.intText? w else none
def optI : Option Int → P
  | some i => .int i
  | none => .non
theorem cutS_len (w : Str) (lo hi : Option Int) : (cutS w lo hi).length ≤ w.length := by
  show (cutS w lo hi).cps.size ≤ w.cps.size
  unfold cutS
  first
    | (simp; omega)
    | simp
end
end AM

/-! PU5: objects of the heap in plain rules. -/
namespace AM
open PySem PySem.Spec PyProof.Rows L2
noncomputable section
theorem insOf_obj {h : AH} {n : Nat} {C : Str} {fs : List (Option P)} (e : h[n]? = some (.ins C fs)) : insOf h (.obj n) = some (n, C, fs) := by
  show (match h[n]? with
    | some (.ins C fs) => some (n, C, fs)
    | _ => none) = _
  rw [e]
theorem eSlot_of {C : Str} {i n : Nat} {o : EM} {t : AM.Loc} {h h1 : AH} {fs : List (Option P)} {p : P} (e : o t h = .ok (.obj n) h1) (e2 : h1[n]? = some (.ins C fs)) (e3 : fs[i]? = some (some p)) : eSlot C i o t h = .ok p h1 := by
  unfold eSlot
  rw [e]
  simp [insOf_obj e2, e3]
theorem eProp_of {C : Str} {m : Fn} {n : Nat} {o : EM} {t : AM.Loc} {h h1 h2 : AH} {fs : List (Option P)} {p : P} (e : o t h = .ok (.obj n) h1) (e2 : h1[n]? = some (.ins C fs)) (e3 : m [.obj n] h1 = .ok p h2) : eProp C m o t h = .ok p h2 := by
  unfold eProp
  rw [e]
  simp [insOf_obj e2, e3]
theorem eMeth_of {C : Str} {k n : Nat} {m : Fn} {o : EM} {a : LM} {t : AM.Loc} {h h1 h2 : AH} {fs : List (Option P)} {xs : List P} (e : o t h = .ok (.obj n) h1) (e2 : h1[n]? = some (.ins C fs)) (e3 : a t h1 = .ok xs h2) (l : xs.length + 1 = k) : eMeth C k m o a t h = m (.obj n :: xs) h2 := by
  unfold eMeth
  rw [e]
  simp [insOf_obj e2, e3, l]
theorem fLenO_of {C : Str} {m : Fn} {n : Nat} {h h1 : AH} {fs : List (Option P)} {k : Nat} (e2 : h[n]? = some (.ins C fs)) (e3 : m [.obj n] h = .ok (.int (k : Nat)) h1) (l : k < 1000000) : fLenO C m [.obj n] h = .ok (.int (k : Nat)) h1 := by
  show (match insOf h (.obj n) with
    | some (_, D, _) => if D = C then (m [.obj n] h).calm.bind fun r h2 => match r with
      | P.int n => if 0 ≤ n ∧ n < 1000000 then Out.ok (P.int n) h2 else .bad
      | _ => .bad else .bad
    | none => fLen [.obj n] h) = _
  rw [insOf_obj e2]
  dsimp only
  rw [if_pos rfl, e3]
  have c : 0 ≤ (k : Int) ∧ (k : Int) < 1000000 := ⟨by omega, by omega⟩
  rw [Out.calm_ok, Out.bind_ok]
  dsimp only
  simp only [c, and_self, if_true]
theorem len_dct {h : AH} {n : Nat} {kvs : List (Key × P)} (e : h[n]? = some (.dct kvs)) : fLen [.obj n] h = .ok (.int kvs.length) h := by
  have s1 : seqOf h (.obj n) = none := by
    show (match h[n]? with
      | some (.lst xs) => some xs
      | _ => none) = none
    rw [e]
  have s2 : dctOf h (.obj n) = some kvs := by
    show (match h[n]? with
      | some (.dct kvs) => some kvs
      | _ => none) = some kvs
    rw [e]
  show (match seqOf h (.obj n) with
    | some xs => Out.ok (P.int xs.length) h
    | none => (match dctOf h (.obj n) with
      | some kvs => .ok (.int kvs.length) h
      | none => .bad)) = _
  rw [s1, s2]
/-! dicts -/
theorem getP_map {α : Type} (f : α → P) (x : Str) : ∀ l : List (Str × α), getP (l.map fun z => ((Sum.inr z.1 : Key), f z.2)) (.inr x) = (l.lookup x).map f
  | [] => rfl
  | (y, a) :: l => by
    have ih := getP_map f x l
    unfold getP at ih ⊢
    by_cases e : y = x
    · subst e
      simp [List.lookup]
    · have e2 : (x == y) = false := beq_eq_false_iff_ne.mpr (Ne.symm e)
      rw [List.lookup_cons, e2]
      simp only [List.map_cons, List.find?_cons]
      rw [show decide ((Sum.inr y : Key) = .inr x) = false from decide_eq_false fun z => e (Sum.inr.inj z)]
      exact ih
theorem cmp_in_dct {h : AH} {n : Nat} {kvs : List (Key × P)} {x : Str} (e : h[n]? = some (.dct kvs)) : cmpV inP (.str x) (.obj n) h = .ok (getP kvs (.inr x)).isSome h := by
  refine cmpV_some ?_
  show (match h[n]? with
    | some (.dct kvs) => (keyOf (.str x)).map fun k => (getP kvs k).isSome
    | _ => _) = _
  rw [e]
  rfl
theorem item_dct {h : AH} {n : Nat} {kvs : List (Key × P)} {x : Str} {p : P} (e : h[n]? = some (.dct kvs)) (g : getP kvs (.inr x) = some p) : itemP (.obj n) (.str x) h = .ok p h := by
  have d : isDct h (.obj n) = true := by
    show (match h[n]? with
      | some (.dct _) => true
      | _ => false) = true
    rw [e]
  unfold itemP
  rw [if_pos d]
  show (match h[n]? with
    | some (.dct kvs) => (match keyOf (.str x) with
      | some k => (match getP kvs k with
        | some p => Out.ok p h
        | none => .bad)
      | none => .bad)
    | _ => .bad) = _
  rw [e]
  show (match getP kvs (.inr x) with
    | some p => Out.ok p h
    | none => .bad) = _
  rw [g]
theorem tup_dct {h : AH} {n : Nat} {kvs : List (Key × P)} (e : h[n]? = some (.dct kvs)) : fTup [.obj n] h = .ok (.tup (kvs.map fun kv : Key × P => keyP kv.1)) h := by
  have s1 : seqOf h (.obj n) = none := by
    show (match h[n]? with
      | some (.lst xs) => some xs
      | _ => none) = none
    rw [e]
  have s2 : dctOf h (.obj n) = some kvs := by
    show (match h[n]? with
      | some (.dct kvs) => some kvs
      | _ => none) = some kvs
    rw [e]
  show (match seqOf h (.obj n) with
    | some xs => Out.ok (P.tup xs) h
    | none => (match dctOf h (.obj n) with
      | some kvs => .ok (.tup (kvs.map fun kv : Key × P => keyP kv.1)) h
      | none => .bad)) = _
  rw [s1, s2]
theorem tupD_dct {h : AH} {n : Nat} {kvs : List (Key × P)} (e : h[n]? = some (.dct kvs)) : fTupD [.obj n] h = .ok (.tup (kvs.map fun kv : Key × P => keyP kv.1)) h := by
  have s2 : dctOf h (.obj n) = some kvs := by
    show (match h[n]? with
      | some (.dct kvs) => some kvs
      | _ => none) = some kvs
    rw [e]
  show (match dctOf h (.obj n) with
      | some kvs => Out.ok (P.tup (kvs.map fun kv : Key × P => keyP kv.1)) h
      | none => .bad) = _
  rw [s2]
/-! flat things in tuples -/
theorem flat_strs : ∀ xs : List Str, (xs.map P.str).all flatP = true
  | [] => rfl
  | _ :: xs => by
    rw [List.map_cons, List.all_cons, flat_strs xs]
    rfl
theorem cmp_in_strs (x : Str) (xs : List Str) (h : AH) : cmpV inP (.str x) (.tup (xs.map P.str)) h = .ok (decide (x ∈ xs)) h := by
  refine cmpV_some ?_
  show (if flatP (.str x) = true ∧ (xs.map P.str).all flatP = true then some ((xs.map P.str).any fun y => PyData.eqv (flatD y) (flatD (.str x))) else none) = _
  rw [if_pos ⟨rfl, flat_strs xs⟩, List.any_map]
  congr 1
  induction xs with
  | nil => rfl
  | cons y ys ih =>
    rw [List.any_cons, ih]
    show ((y == x) || decide (x ∈ ys)) = _
    by_cases e : y = x
    · subst e
      simp
    · have e2 : (y == x) = false := beq_eq_false_iff_ne.mpr e
      rw [e2]
      simp [Ne.symm e]
@[simp] theorem lS_at (m : EM) (r : LM) (t : AM.Loc) (h : AH) : lS m r t h = (m t h).bind fun p h1 => match p with
  | .tup xs => (r t h1).bind fun ys h2 => .ok (xs ++ ys) h2
  | .lst xs => (r t h1).bind fun ys h2 => .ok (xs ++ ys) h2
  | .obj n => (match h1[n]? with
    | some (.lst xs) => (r t h1).bind fun ys h2 => .ok (xs ++ ys) h2
    | _ => .bad)
  | _ => .bad := rfl
theorem idx_strs {x : Str} {xs : List Str} (hx : x ∈ xs) : idxS (xs.map P.str) (.str x) = some (xs.idxOf x) := by
  have s : ∀ ys : List Str, strsOf (ys.map P.str) = some ys := by
    intro ys
    induction ys with
    | nil => rfl
    | cons y ys ih =>
      show (strsOf (ys.map P.str)).map (y :: ·) = _
      rw [ih]
      rfl
  show (strsOf (xs.map P.str)).bind (fun zs => if zs.idxOf x < zs.length then some (zs.idxOf x) else none) = _
  rw [s]
  show (if xs.idxOf x < xs.length then some (xs.idxOf x) else none) = _
  rw [if_pos (List.idxOf_lt_length_of_mem hx)]
/-! a heap with more behind it -/
theorem get_app {h j : AH} {n : Nat} {o : O} (e : h[n]? = some o) : (h ++ j)[n]? = some o := by
  rw [List.getElem?_append_left (List.getElem?_eq_some_iff.mp e).1]
  exact e
end
end AM

/-! PU6: lists that grow in loops. -/
namespace AM
open PySem PySem.Spec PyProof.Rows L2
noncomputable section
theorem objL_last {h : AH} {acc : List P} : objL (h ++ [.lst acc]) (.obj h.length) = some (h.length, acc) := by
  show (match (h ++ [O.lst acc])[h.length]? with
    | some (.lst xs) => some (h.length, xs)
    | _ => none) = _
  simp
theorem append_last {h : AH} {acc : List P} {y : P} (l : acc.length < 16777216) : mAppend (.obj h.length) [y] (h ++ [.lst acc]) = .ok .non (h ++ [.lst (acc ++ [y])]) := by
  unfold mAppend
  rw [objL_last]
  dsimp only
  rw [if_pos l]
  congr 1
  simp
theorem extend_last {h : AH} {acc ys : List P} (l : acc.length + ys.length ≤ 16777216) : mExtend (.obj h.length) [.lst ys] (h ++ [.lst acc]) = .ok .non (h ++ [.lst (acc ++ ys)]) := by
  unfold mExtend
  rw [objL_last]
  show (if small (acc.length + ys.length) = true then _ else _) = _
  rw [if_pos (small_true l)]
  congr 1
  simp
theorem isTy_last {h : AH} {acc : List P} : isTy (h ++ [.lst acc]) "list" (.obj h.length) = true := by
  show (match (h ++ [O.lst acc])[h.length]? with
    | some (.lst _) => ("list" : String) == "list"
    | some (.dct _) => ("list" : String) == "dict"
    | _ => false) = true
  simp
@[simp] theorem eBM_at (T : String) (f : MF) (mo : EM) (a : LM) (t : AM.Loc) (h : AH) : eBM T f mo a t h = (mo t h).bind fun x h1 => if isTy h1 T x = true then (a t h1).bind fun xs h2 => f x xs h2 else .bad := rfl
theorem tup_last {h : AH} {acc : List P} : fTup [.obj h.length] (h ++ [.lst acc]) = .ok (.tup acc) (h ++ [.lst acc]) := by
  have s1 : seqOf (h ++ [.lst acc]) (.obj h.length) = some acc := by
    show (match (h ++ [O.lst acc])[h.length]? with
      | some (.lst xs) => some xs
      | _ => none) = _
    simp
  show (match seqOf (h ++ [.lst acc]) (.obj h.length) with
    | some xs => Out.ok (P.tup xs) (h ++ [O.lst acc])
    | none => _) = _
  rw [s1]
/-- for y in ys: found.append(f y) -/
theorem for_append {α : Type} {S : Src} {h0 h : AH} {g : GM} {b : SM} (I : AM.Loc → Prop) (k f : α → P) (hS : S.w = []) :
    ∀ {ys : List α} {acc : List P} {t : AM.Loc}, I t → (∀ y ∈ ys, ∀ t acc, I t → acc.length ≤ 100000 → ∃ t1 t2, g (k y) t (h ++ [.lst acc]) = some (t1, h ++ [.lst acc]) ∧ b t1 (h ++ [.lst acc]) = .nx t2 (h ++ [.lst (acc ++ [f y])]) ∧ I t2) → acc.length + ys.length ≤ 100000 →
      ∃ t2, I t2 ∧ forP S h0 g b (ys.map k) t (h ++ [.lst acc]) = .nx t2 (h ++ [.lst (acc ++ ys.map f)])
  | [], acc, t, i, _, _ => ⟨t, i, by
    show forP S h0 g b [] t (h ++ [.lst acc]) = _
    unfold forP
    rw [if_pos (by unfold Src.still; rw [hS]; simp)]
    simp⟩
  | y :: ys, acc, t, i, H, L => by
    have L' : acc.length + (ys.length + 1) ≤ 100000 := L
    obtain ⟨t1, t2, e1, e2, i2⟩ := H y (List.mem_cons_self ..) t acc i (by omega)
    obtain ⟨t3, i3, e3⟩ := for_append (acc := acc ++ [f y]) I k f hS i2 (fun z hz => H z (List.mem_cons_of_mem _ hz)) (by simp; omega)
    refine ⟨t3, i3, ?_⟩
    show forP S h0 g b (k y :: ys.map k) t (h ++ [.lst acc]) = _
    unfold forP
    rw [if_pos (by unfold Src.still; rw [hS]; simp), e1]
    dsimp only
    rw [e2]
    dsimp only
    rw [e3]
    simp
/-! enumerate -/
def enumF {α : Type} (k : Nat) : List α → List (Nat × α)
  | [] => []
  | x :: xs => (k, x) :: enumF (k + 1) xs
theorem enumP_map {α : Type} (f : α → P) : ∀ (xs : List α) (k : Nat), enumP k (xs.map f) = (enumF k xs).map fun z => .tup [.int (z.1 : Nat), f z.2]
  | [], _ => rfl
  | x :: xs, k => by
    show _ :: enumP (k + 1) (xs.map f) = _ :: (enumF (k + 1) xs).map _
    rw [enumP_map f xs (k + 1)]
theorem enumF_len {α : Type} : ∀ (xs : List α) (k : Nat), (enumF k xs).length = xs.length
  | [], _ => rfl
  | _ :: xs, k => by
    show (enumF (k + 1) xs).length + 1 = xs.length + 1
    rw [enumF_len xs]
theorem enumF_mem {α : Type} : ∀ {xs : List α} {k : Nat} {z : Nat × α}, z ∈ enumF k xs → k ≤ z.1 ∧ xs[z.1 - k]? = some z.2
  | [], _, _, h => by cases h
  | x :: xs, k, z, h => by
    rcases List.mem_cons.mp h with rfl | h
    · simp
    · obtain ⟨a, b⟩ := enumF_mem h
      refine ⟨by omega, ?_⟩
      have e : z.1 - k = (z.1 - (k + 1)) + 1 := by omega
      rw [e]
      simpa using b
end
end AM

/-! PU7: data of placements. -/
namespace AM
open PySem PySem.Spec PyProof.Rows L2
noncomputable section
def plP (pl : List (List Fr)) : P := .tup (pl.map rowP)
def ratD (x : Fr) : PyData := .tuple [.int x.1, .int x.2]
def rowD (r : List Fr) : PyData := .tuple (r.map ratD)
def plD (pl : List (List Fr)) : PyData := .tuple (pl.map rowD)
theorem datas_map {α : Type} {g : Nat → Option PyData} (f : α → P) (d : α → PyData) (e : ∀ a, dataP g (f a) = some (d a)) : ∀ l : List α, datasP g (l.map f) = some (l.map d)
  | [] => rfl
  | a :: l => by
    rw [List.map_cons, List.map_cons]
    unfold datasP
    rw [e a, datas_map f d e l]
theorem dat_rat (g : Nat → Option PyData) (x : Fr) : dataP g (ratP x) = some (ratD x) := rfl
theorem dat_row (g : Nat → Option PyData) (r : List Fr) : dataP g (rowP r) = some (rowD r) := by
  show (datasP g (r.map ratP)).map PyData.tuple = _
  rw [datas_map ratP ratD (dat_rat g)]
  rfl
theorem dat_pl (h : AH) (pl : List (List Fr)) : dat h (plP pl) = some (plD pl) := by
  show (datasP (resolve h 4) (pl.map rowP)).map PyData.tuple = _
  rw [datas_map rowP rowD (dat_row _)]
  rfl
theorem lay_map {α : Type} (d : α → PyData) (e : ∀ a, (d a).canLay0 = true) : ∀ l : List α, PyData.canLayAll0 (l.map d) = true
  | [] => rfl
  | a :: l => by
    rw [List.map_cons]
    unfold PyData.canLayAll0
    rw [e a, lay_map d e l]
    rfl
theorem depth_map {α : Type} (d : α → PyData) (k : Nat) (e : ∀ a, (d a).depth ≤ k) : ∀ l : List α, PyData.depthAll (l.map d) ≤ k
  | [] => Nat.zero_le _
  | a :: l => by
    rw [List.map_cons]
    unfold PyData.depthAll
    exact Nat.max_le.mpr ⟨e a, depth_map d k e l⟩
theorem lay_rat (x : Fr) : (ratD x).canLay0 = true := rfl
theorem lay_row (r : List Fr) : (rowD r).canLay0 = true := by
  unfold rowD PyData.canLay0
  exact lay_map _ lay_rat r
theorem depth_rat (x : Fr) : (ratD x).depth ≤ 1 := by
  unfold ratD PyData.depth
  simp [PyData.depthAll, PyData.depth]
theorem depth_row (r : List Fr) : (rowD r).depth ≤ 2 := by
  unfold rowD PyData.depth
  have := depth_map ratD 1 depth_rat r
  omega
theorem shaped_row (r : List Fr) : SeqAt.shaped (rowD r) = true := by
  unfold SeqAt.shaped
  rw [lay_row, decide_eq_true (by have := depth_row r; omega)]
  rfl
theorem shaped_pl (pl : List (List Fr)) : SeqAt.shaped (plD pl) = true := by
  unfold SeqAt.shaped
  have l : (plD pl).canLay0 = true := by
    unfold plD PyData.canLay0
    exact lay_map _ lay_row pl
  have dp : (plD pl).depth ≤ 64 := by
    unfold plD PyData.depth
    have := depth_map rowD 2 depth_row pl
    omega
  rw [l, decide_eq_true dp]
  rfl
theorem eq_dat {p q : P} {h : AH} {d e : PyData} (h1 : dat h p = some d) (h2 : dat h q = some e) (s1 : SeqAt.shaped d = true) (s2 : SeqAt.shaped e = true) (np : ∀ x, p ≠ .str x) : cmpV eqP p q h = .ok (PyData.eqv d e) h := by
  refine cmpV_some ?_
  unfold eqP
  split
  · rename_i x y
    exact absurd rfl (np x)
  · rw [h1, h2]
    dsimp only
    rw [if_pos ⟨s1, s2⟩]
theorem ne_dat {p q : P} {h : AH} {d e : PyData} (h1 : dat h p = some d) (h2 : dat h q = some e) (s1 : SeqAt.shaped d = true) (s2 : SeqAt.shaped e = true) (np : ∀ x, p ≠ .str x) : cmpV neP p q h = .ok (!PyData.eqv d e) h := by
  refine cmpV_some ?_
  have z := eq_dat h1 h2 s1 s2 np
  have z2 : eqP p q h = some (PyData.eqv d e) := by
    unfold cmpV at z
    split at z
    · rename_i k e
      cases z
      exact e
    · cases z
  unfold neP
  rw [z2]
  rfl
theorem pl_ne_empty (pl : List (List Fr)) (h : AH) : cmpV neP (plP pl) (.tup []) h = .ok (!pl.isEmpty) h := by
  rw [ne_dat (dat_pl h pl) (show dat h (.tup []) = some (.tuple []) from rfl) (shaped_pl pl) (by decide) (fun x z => by cases z)]
  cases pl with
  | nil => rfl
  | cons r pl => rfl
theorem cleans_rows (n : Nat) (pl : List (List Fr)) : cleans n (pl.map rowP) = true := cleans_all fun p hp => by
  obtain ⟨r, _, rfl⟩ := List.mem_map.mp hp
  exact clean_row n r
end
end AM

/-! PU8: a heap that is written to. -/
namespace AM
open PySem PySem.Spec PyProof.Rows L2
noncomputable section
theorem trim_len {h0 h : AH} {p : P} (l : h.length = h0.length) : trim h0 p h = h := by
  unfold trim
  split
  · rw [List.take_of_length_le (by omega)]
  · rfl
theorem shut_set {h0 j : AH} {k : Nat} {o : O} (c : cleanO h0.length o = true) : Shut h0 (h0.set k o ++ j) := fun i o2 hi e => by
  rw [List.getElem?_append_left (by simpa using hi), List.getElem?_set] at e
  split at e
  · split at e
    · cases e
      exact .inr c
    · cases e
  · exact .inl e
theorem trim_set {h0 j : AH} {k : Nat} {o : O} {p : P} (c : cleanO h0.length o = true) (cp : clean h0.length p = true) : trim h0 p (h0.set k o ++ j) = h0.set k o := by
  unfold trim
  rw [if_pos ⟨cp, shut_set c⟩, List.take_append_of_le_length (by simp), List.take_of_length_le (by simp)]
theorem fn_set {ns : Nat} {b : SM} {xs : List P} {h : AH} {p : P} {k : Nat} {o : O} {j : AH} (e : b (xs.map some ++ List.replicate (ns - xs.length) none) h = .rt p (h.set k o ++ j)) (c : cleanO h.length o = true) (cp : clean h.length p = true) : mkFn ns b xs h = .ok p (h.set k o) := by
  unfold mkFn
  rw [e]
  show Out.ok p (trim h p (h.set k o ++ j)) = _
  rw [trim_set c cp]
/-- an instance that keeps new objects is not forgotten -/
theorem trim_keep {h0 h : AH} {k : Nat} {o o2 : O} {p : P} (l : k < h0.length) (e : h[k]? = some o) (e2 : h0[k]? = some o2) (ne : o2 ≠ o) (c : cleanO h0.length o = false) : trim h0 p h = h := by
  unfold trim
  rw [if_neg]
  rintro ⟨_, s⟩
  rcases s k o l e with z | z
  · rw [e2] at z
    exact ne (Option.some.inj z)
  · rw [c] at z
    cases z
theorem append_at {h : AH} {n : Nat} {xs : List P} {y : P} (e : h[n]? = some (.lst xs)) (l : xs.length < 16777216) : mAppend (.obj n) [y] h = .ok .non (h.set n (.lst (xs ++ [y]))) := by
  have z : objL h (.obj n) = some (n, xs) := by
    show (match h[n]? with
      | some (.lst xs) => some (n, xs)
      | _ => none) = _
    rw [e]
  unfold mAppend
  rw [z]
  dsimp only
  rw [if_pos l]
theorem isTy_at {h : AH} {n : Nat} {xs : List P} (e : h[n]? = some (.lst xs)) : isTy h "list" (.obj n) = true := by
  show (match h[n]? with
    | some (.lst _) => ("list" : String) == "list"
    | some (.dct _) => ("list" : String) == "dict"
    | _ => false) = true
  rw [e]
  rfl
theorem len_lst {h : AH} {n : Nat} {xs : List P} (e : h[n]? = some (.lst xs)) : fLen [.obj n] h = .ok (.int (xs.length : Nat)) h := by
  have s1 : seqOf h (.obj n) = some xs := by
    show (match h[n]? with
      | some (.lst xs) => some xs
      | _ => none) = some xs
    rw [e]
  show (match seqOf h (.obj n) with
    | some xs => Out.ok (P.int xs.length) h
    | none => _) = _
  rw [s1]
theorem tup_lst {h : AH} {n : Nat} {xs : List P} (e : h[n]? = some (.lst xs)) : fTup [.obj n] h = .ok (.tup xs) h := by
  have s1 : seqOf h (.obj n) = some xs := by
    show (match h[n]? with
      | some (.lst xs) => some xs
      | _ => none) = some xs
    rw [e]
  show (match seqOf h (.obj n) with
    | some xs => Out.ok (P.tup xs) h
    | none => _) = _
  rw [s1]
theorem putP_new {kvs : List (Key × P)} {k : Key} {p : P} (g : getP kvs k = none) : putP kvs k p = kvs ++ [(k, p)] := by
  unfold putP
  rw [if_neg]
  intro z
  unfold getP at g
  have g2 : kvs.find? (fun kv => decide (kv.1 = k)) = none := by
    cases q : kvs.find? (fun kv => decide (kv.1 = k)) with
    | none => rfl
    | some a => rw [q] at g; cases g
  rw [List.find?_eq_none] at g2
  obtain ⟨a, m, e⟩ := List.any_eq_true.mp z
  exact g2 a m e
theorem put_dct {h : AH} {n : Nat} {kvs : List (Key × P)} {x : Str} {p : P} (e : h[n]? = some (.dct kvs)) (g : getP kvs (.inr x) = none) (l : kvs.length < 16777216) : setItemP (.obj n) (.str x) p h = some (h.set n (.dct (kvs ++ [(.inr x, p)]))) := by
  unfold setItemP
  dsimp only
  rw [e]
  show (if kvs.length < 16777216 then some (h.set n (.dct (putP kvs (.inr x) p))) else none) = _
  rw [if_pos l, putP_new g]
@[simp] theorem eD0_at (t : AM.Loc) (h : AH) : eD0 t h = .ok (.obj h.length) (h ++ [.dct []]) := rfl
theorem cmp_D0 {neg : Bool} {h : AH} {n m : Nat} {kvs : List (Key × P)} (e : h[n]? = some (.dct kvs)) (e2 : h[m]? = some (.dct [])) : cmpV (eqD0 neg) (.obj n) (.obj m) h = .ok (if neg = true then !kvs.isEmpty else kvs.isEmpty) h := by
  refine cmpV_some ?_
  have s1 : dctOf h (.obj n) = some kvs := by
    show (match h[n]? with
      | some (.dct kvs) => some kvs
      | _ => none) = some kvs
    rw [e]
  have s2 : dctOf h (.obj m) = some [] := by
    show (match h[m]? with
      | some (.dct kvs) => some kvs
      | _ => none) = some []
    rw [e2]
  unfold eqD0
  rw [s1, s2]
theorem cmp_L0 {h : AH} {n : Nat} (e : h[n]? = some (.lst [])) : cmpV neP (.obj n) (.lst []) h = .ok false h := by
  have d : dat h (.obj n) = some (.list []) := by
    show (match h[n]? with
      | some (.lst xs) => (datasP (resolve h 3) xs).map PyData.list
      | _ => none) = _
    rw [e]
    rfl
  rw [ne_dat d (show dat h (.lst []) = some (.list []) from rfl) (by decide) (by decide) (fun x z => by cases z)]
  rfl
theorem notin_of {p q : P} {h : AH} {b : Bool} (e : cmpV inP p q h = .ok b h) : cmpV notinP p q h = .ok (!b) h := by
  refine cmpV_some ?_
  have e2 : inP p q h = some b := by
    unfold cmpV at e
    split at e
    · rename_i k z
      cases e
      exact z
    · cases e
  show (inP p q h).map (!·) = _
  rw [e2]
  rfl
@[simp] theorem gS_at (o i : EM) (p : P) (t : AM.Loc) (h : AH) : gS o i p t h = match o t h with
  | .ok x h1 => (match i t h1 with
    | .ok y h2 => (setItemP x y p h2).map fun h3 => (t, h3)
    | _ => none)
  | _ => none := rfl
@[simp] theorem gSl_at (C : Str) (i : Nat) (o : EM) (p : P) (t : AM.Loc) (h : AH) : gSl C i o p t h = match o t h with
  | .ok x h1 => (setSlotP C i x p h1).map fun h2 => (t, h2)
  | _ => none := rfl
theorem set_slot {C : Str} {i n : Nat} {h : AH} {fs : List (Option P)} {p : P} (e : h[n]? = some (.ins C fs)) : setSlotP C i (.obj n) p h = some (h.set n (.ins C (putSl i p fs))) := by
  unfold setSlotP
  rw [insOf_obj e]
  dsimp only
  rw [if_pos rfl]
@[simp] theorem eNew_at (C : Str) (n : Nat) (m : Fn) (a : LM) (t : AM.Loc) (h : AH) : eNew C n m a t h = (a t h).bind fun xs h1 => if xs.length + 1 = n then newOf C m xs h1 else .bad := rfl
theorem new_of {C : Str} {m : Fn} {xs : List P} {h h2 : AH} (e : m (.obj h.length :: xs) (h ++ [.ins C []]) = .ok .non h2) : newOf C m xs h = .ok (.obj h.length) h2 := by
  unfold newOf
  rw [e]
  rfl
theorem getP_app {kvs l : List (Key × P)} {k : Key} (g : getP kvs k = none) : getP (kvs ++ l) k = getP l k := by
  unfold getP at g ⊢
  cases q : kvs.find? (fun kv => decide (kv.1 = k)) with
  | none => rw [List.find?_append, q]; rfl
  | some a => rw [q] at g; cases g
/-- a pair of words among pairs of words -/
theorem pair_eqv (a b c d : Str) : PyData.eqv (.tuple [.str a, .str b]) (.tuple [.str c, .str d]) = decide ((a, b) = (c, d)) := by
  show ((a == c) && ((b == d) && true)) = _
  by_cases e : a = c
  · by_cases f : b = d
    · subst e f
      simp
    · simp [e, f]
  · simp [e]
end
end AM

/-! PU9: lines and words. -/
namespace AM
open PySem PySem.Spec PyProof.Rows L2 TL
noncomputable section
theorem mem_join {S : List Nat} {c : Nat} : ∀ {ps : List (List Nat)}, c ∈ joinL S ps → c ∈ S ∨ ∃ p ∈ ps, c ∈ p
  | [], h => by cases h
  | [p], h => .inr ⟨p, List.mem_singleton.mpr rfl, h⟩
  | p :: q :: r, h => by
    have h : c ∈ p ++ (S ++ joinL S (q :: r)) := h
    rcases List.mem_append.mp h with h | h
    · exact .inr ⟨p, List.mem_cons_self .., h⟩
    · rcases List.mem_append.mp h with h | h
      · exact .inl h
      · rcases mem_join h with z | ⟨x, hx, hc⟩
        · exact .inl z
        · exact .inr ⟨x, List.mem_cons_of_mem _ hx, hc⟩
/-- a word holds no blank and no line's end -/
def wordy (w : Str) : Bool := !(tl w).contains 32 && !(tl w).contains 10
theorem wordy_blank {w : Str} (h : wordy w = true) : 32 ∉ tl w := fun m => by
  unfold wordy at h
  rw [List.contains_iff_mem.mpr m] at h
  simp at h
theorem wordy_feed {w : Str} (h : wordy w = true) : 10 ∉ tl w := fun m => by
  unfold wordy at h
  rw [List.contains_iff_mem.mpr m] at h
  simp at h
theorem tl_blank : tl (" " : Str) = [32] := by decide +kernel
theorem tl_feed : tl ("\n" : Str) = [10] := by decide +kernel
theorem split_words {ws : List Str} (ne : ws ≠ []) (hw : ∀ w ∈ ws, wordy w = true) : Txt.split (Txt.join " " ws) " " = ws :=
  split_join (s := 32) (S := []) tl_blank (by decide +kernel) ne fun p hp => wordy_blank (hw p hp)
theorem feed_line {ws : List Str} (hw : ∀ w ∈ ws, wordy w = true) : 10 ∉ tl (Txt.join " " ws) := fun m => by
  rw [join_eq, tl_join, tl_blank] at m
  rcases mem_join m with z | ⟨p, hp, hc⟩
  · simp at z
  · obtain ⟨w, hm, rfl⟩ := List.mem_map.mp hp
    exact wordy_feed (hw w hm) hc
theorem split_lines {rows : List (List Str)} (ne : rows ≠ []) (hw : ∀ ws ∈ rows, ∀ w ∈ ws, wordy w = true) : Txt.split (Txt.join "\n" (rows.map (Txt.join " "))) "\n" = rows.map (Txt.join " ") :=
  split_join (s := 10) (S := []) tl_feed (by decide +kernel) (fun e => ne (List.map_eq_nil_iff.mp e)) fun p hp => by
    obtain ⟨ws, hm, rfl⟩ := List.mem_map.mp hp
    exact feed_line (hw ws hm)
theorem split_rows {rows : List (List Str)} (ne : rows ≠ []) (nes : ∀ ws ∈ rows, ws ≠ []) (hw : ∀ ws ∈ rows, ∀ w ∈ ws, wordy w = true) : (Txt.split (Txt.join "\n" (rows.map (Txt.join " "))) "\n").map (fun x => Txt.split x " ") = rows := by
  rw [split_lines ne hw, List.map_map]
  have z : ∀ l : List (List Str), (∀ ws ∈ l, ws ∈ rows) → l.map ((fun x => Txt.split x " ") ∘ Txt.join " ") = l := by
    intro l
    induction l with
    | nil => intro _; rfl
    | cons ws l ih =>
      intro h
      rw [List.map_cons, ih fun x hx => h x (List.mem_cons_of_mem _ hx)]
      show Txt.split (Txt.join " " ws) " " :: l = ws :: l
      have m := h ws (List.mem_cons_self ..)
      rw [split_words (nes ws m) (hw ws m)]
  exact z rows fun _ h => h
/-- lengths of joined texts -/
theorem join_len (y : Str) (n : Nat) : ∀ {ps : List Str}, (∀ p ∈ ps, p.length ≤ n) → (Txt.join y ps).length ≤ ps.length * (n + y.length)
  | [], _ => by
    rw [join_eq]
    exact Nat.zero_le _
  | [p], h => by
    rw [join_eq]
    show p.length ≤ _
    have := h p (List.mem_singleton.mpr rfl)
    simp only [List.length_cons, List.length_nil]
    omega
  | p :: q :: r, h => by
    have ih := join_len y n (ps := q :: r) fun x hx => h x (List.mem_cons_of_mem _ hx)
    rw [join_eq] at ih ⊢
    show (p ++ y ++ Str.join y (q :: r)).length ≤ (r.length + 1 + 1) * _
    rw [Str.length_append, Str.length_append]
    have a := h p (List.mem_cons_self ..)
    have ih : (Str.join y (q :: r)).length ≤ (r.length + 1) * (n + y.length) := ih
    rw [Nat.succ_mul (r.length + 1)]
    omega
theorem add_str {b : Bool} {x y : Str} {h : AH} (l : x.length + y.length ≤ 16777216) : vAdd b (.str x) (.str y) h = .ok (.str (x ++ y)) h := by
  show orF2 (orF2 (orF2 (vInt0 fun i j => i + j) vAddS) vAddT) (vAddL b) (.str x) (.str y) h = _
  have z : vAddS (.str x) (.str y) h = .ok (.str (x ++ y)) h := by
    show (if small (x.length + y.length) = true then Out.ok (P.str (x ++ y)) h else .bad) = _
    rw [if_pos (small_true l)]
  show (match (match (match (match Out.bad with
    | .bad => vAddS (.str x) (.str y) h
    | o => o : Out P) with
    | .bad => vAddT (.str x) (.str y) h
    | o => o : Out P) with
    | .bad => vAddL b (.str x) (.str y) h
    | o => o : Out P) with
    | o => o : Out P) = _
  rw [z]
theorem gU_obj {n i : Nat} {r : GMs} {xs : List P} {t : AM.Loc} {h : AH} (e : h[i]? = some (.lst xs)) (l : xs.length = n) : gU n r (.obj i) t h = r xs t h := by
  show (match h[i]? with
    | some (.lst xs) => if xs.length = n then r xs t h else none
    | _ => none) = _
  rw [e]
  dsimp only
  rw [if_pos l]
theorem join_str {y : Str} {ps : List Str} {q : P} {h : AH} (e : seqOf h q = some (ps.map P.str)) (l : (ps.map fun z => Str.length z).sum + ps.length * y.length ≤ 16777216) : fJoin (.str y) q h = .ok (.str (Txt.join y ps)) h := by
  have s : ∀ ys : List Str, strsOf (ys.map P.str) = some ys := by
    intro ys
    induction ys with
    | nil => rfl
    | cons y ys ih =>
      show (strsOf (ys.map P.str)).map (y :: ·) = _
      rw [ih]
      rfl
  show (match (seqOf h q).bind strsOf with
    | some ys => if (ys.map fun z => Str.length z).sum + ys.length * y.length ≤ 16777216 then Out.ok (P.str (Txt.join y ys)) h else .bad
    | none => .bad) = _
  rw [e]
  show (match strsOf (ps.map P.str) with
    | some ys => if (ys.map fun z => Str.length z).sum + ys.length * y.length ≤ 16777216 then Out.ok (P.str (Txt.join y ys)) h else .bad
    | none => .bad) = _
  rw [s]
  dsimp only
  rw [if_pos l]
end
end AM

/-! PU10: what is shown; steps. -/
namespace AM
open PySem PySem.Spec PyProof.Rows L2
noncomputable section
theorem sq_nx {a b : SM} {t t' : AM.Loc} {h h' : AH} (e : a t h = .nx t' h') : sQ a b t h = b t' h' := by
  rw [sQ_at, e]
  rfl
theorem extend_at {h : AH} {n : Nat} {xs ys : List P} (e : h[n]? = some (.lst xs)) (l : xs.length + ys.length ≤ 16777216) : mExtend (.obj n) [.lst ys] h = .ok .non (h.set n (.lst (xs ++ ys))) := by
  have z : objL h (.obj n) = some (n, xs) := by
    show (match h[n]? with
      | some (.lst xs) => some (n, xs)
      | _ => none) = _
    rw [e]
  unfold mExtend
  rw [z]
  show (if small (xs.length + ys.length) = true then _ else _) = _
  rw [if_pos (small_true l)]
theorem get0 {h r : AH} {o : O} : (h ++ o :: r)[h.length]? = some o := by simp
theorem get1 {h r : AH} {o u : O} : (h ++ o :: u :: r)[h.length + 1]? = some u := by
  rw [List.getElem?_append_right (by omega)]
  simp
theorem set0 {h r : AH} {o v : O} : (h ++ o :: r).set h.length v = h ++ v :: r := by
  rw [List.set_append_right _ _ (by omega)]
  simp
theorem set1 {h r : AH} {o u v : O} : (h ++ o :: u :: r).set (h.length + 1) v = h ++ o :: v :: r := by
  rw [List.set_append_right _ _ (by omega)]
  simp
theorem extend0 {h r : AH} {xs ys : List P} (l : xs.length + ys.length ≤ 16777216) : mExtend (.obj h.length) [.lst ys] (h ++ .lst xs :: r) = .ok .non (h ++ .lst (xs ++ ys) :: r) := by rw [extend_at get0 l, set0]
theorem extend1 {h r : AH} {o : O} {xs ys : List P} (l : xs.length + ys.length ≤ 16777216) : mExtend (.obj (h.length + 1)) [.lst ys] (h ++ o :: .lst xs :: r) = .ok .non (h ++ o :: .lst (xs ++ ys) :: r) := by rw [extend_at get1 l, set1]
theorem append0 {h r : AH} {xs : List P} {y : P} (l : xs.length < 16777216) : mAppend (.obj h.length) [y] (h ++ .lst xs :: r) = .ok .non (h ++ .lst (xs ++ [y]) :: r) := by rw [append_at get0 l, set0]
theorem isTy0 {h r : AH} {xs : List P} : isTy (h ++ .lst xs :: r) "list" (.obj h.length) = true := isTy_at get0
theorem isTy1 {h r : AH} {o : O} {xs : List P} : isTy (h ++ o :: .lst xs :: r) "list" (.obj (h.length + 1)) = true := isTy_at get1
theorem repr_dat {h : AH} {p : P} {d : PyData} (e : dat h p = some d) (o : shownOk d = true) : fRepr [p] h = .ok (.str d.shown) h := by
  show (match dat h p with
    | some d => if shownOk d = true then Out.ok (P.str d.shown) h else .bad
    | none => .bad) = _
  rw [e]
  dsimp only
  rw [if_pos o]
theorem dat_obj {h : AH} {n : Nat} {xs : List P} {ds : List PyData} (e : h[n]? = some (.lst xs)) (e2 : datasP (resolve h 3) xs = some ds) : dat h (.obj n) = some (.list ds) := by
  show (match h[n]? with
    | some (.lst xs) => (datasP (resolve h 3) xs).map PyData.list
    | _ => none) = _
  rw [e]
  dsimp only
  rw [e2]
  rfl
theorem shown_ok (B : Nat) {d : PyData} (hB : 8 ≤ B) (s : d.showable = true) (nd : d.hasDict = false) (dp : d.depth ≤ 60) (l : d.leavesShort B = true) (b : (B + 2) * d.bulk + B ≤ 16777216) : shownOk d = true := by
  have z := PyData.shown_le_bulk B hB d l
  unfold shownOk
  rw [s, nd, decide_eq_true dp, small_true (by omega)]
  rfl
/-- both lists hold the same -/
theorem repr_same {h : AH} {n m : Nat} {xs : List P} {ds : List PyData} (e : h[n]? = some (.lst xs)) (e2 : h[m]? = some (.lst xs)) (d : datasP (resolve h 3) xs = some ds) (o : shownOk (.list ds) = true) : (eCmp eqP (eCB fRepr (lC (eC (.obj n)) lN)) (eCB fRepr (lC (eC (.obj m)) lN))) [] h = .ok (.bl true) h := by
  have z1 := repr_dat (dat_obj e d) o
  have z2 := repr_dat (dat_obj e2 d) o
  simp [z1, z2]
end
end AM

/-! PU11: pots that are drawn from. -/
namespace AM
open PySem PySem.Spec PyProof.Rows L2
noncomputable section
/-- a pot's object, of which T draws at most were made -/
def Cup (T : Nat) (o : O) : Prop := ∃ a b t : Int, o = .lst [.int a, .int b, .int t] ∧ (0 ≤ a ∧ a < ((2 ^ 1000 : Nat) : Int)) ∧ (0 ≤ b ∧ b < ((2 ^ 62 : Nat) : Int)) ∧ 0 ≤ t ∧ t ≤ (T : Int)
theorem Cup.mono {T U : Nat} {o : O} (c : Cup T o) (l : T ≤ U) : Cup U o := by
  obtain ⟨a, b, t, e, ha, hb, h0, h1⟩ := c
  exact ⟨a, b, t, e, ha, hb, h0, by omega⟩
theorem Cup.clean {T : Nat} {o : O} (c : Cup T o) (n : Nat) : cleanO n o = true := by
  obtain ⟨a, b, t, rfl, _⟩ := c
  rfl
/-- no row of tuples is a pot -/
theorem Cup.not_tups {α : Type} {T : Nat} {o : O} (c : Cup T o) {f : α → List P} {l : List α} (e : o = .lst (l.map fun z => .tup (f z))) : False := by
  obtain ⟨a, b, t, rfl, _⟩ := c
  cases l with
  | nil => cases e
  | cons x l => cases e
theorem Cup.not_strs {T : Nat} {o : O} (c : Cup T o) {l : List Str} (e : o = .lst (l.map P.str)) : False := by
  obtain ⟨a, b, t, rfl, _⟩ := c
  cases l with
  | nil => cases e
  | cons x l => cases e
theorem Cup.not_dct {T : Nat} {o : O} (c : Cup T o) {l : List (Key × P)} (e : o = .dct l) : False := by
  obtain ⟨a, b, t, rfl, _⟩ := c
  cases e
theorem Cup.not_ins {T : Nat} {o : O} (c : Cup T o) {C : Str} {l : List (Option P)} (e : o = .ins C l) : False := by
  obtain ⟨a, b, t, rfl, _⟩ := c
  cases e
theorem set_self {h : AH} {n : Nat} {o : O} (e : h[n]? = some o) : h.set n o = h := by
  refine List.ext_getElem? fun i => ?_
  rw [List.getElem?_set]
  split
  · rename_i i1
    subst i1
    rw [if_pos (List.getElem?_eq_some_iff.mp e).1, e]
  · rfl
theorem set_at {h : AH} {n : Nat} {o u : O} (e : h[n]? = some u) : (h.set n o)[n]? = some o := List.getElem?_set_self (List.getElem?_eq_some_iff.mp e).1
theorem set_off {h : AH} {n m : Nat} {o : O} (ne : n ≠ m) : (h.set n o)[m]? = h[m]? := List.getElem?_set_ne ne
theorem set_app {h j : AH} {n : Nat} {o u : O} (e : h[n]? = some u) : (h ++ j).set n o = h.set n o ++ j := List.set_append_left _ _ (List.getElem?_eq_some_iff.mp e).1
/-- a display within that draws from a pot -/
theorem lc_pot {α β : Type} {S : Src} {h : AH} {n : Nat} {g : GM} {e : EM} {t : AM.Loc} (k : α → P) (f : β → P) (c : Nat) (hf : ∀ x, clean 0 (f x) = true) (R : β → Prop) {o0 : O} (h0 : h[n]? = some o0) (hw : ∀ m ∈ S.w, m ≠ n ∧ m < h.length) (M : Nat) :
    ∀ {ys : List α} {acc : List P} {o : O} {T : Nat}, T + c * ys.length ≤ M → Cup T o → acc.length + ys.length ≤ 16777216 →
      (∀ y ∈ ys, ∀ (acc : List P) (o : O) (T' : Nat), Cup T' o → T' + c ≤ M → ∃ t1, g (k y) t (h.set n o ++ [.lst acc]) = some (t1, h.set n o ++ [.lst acc]) ∧ ∃ x o', R x ∧ Cup (T' + c) o' ∧ e t1 (h.set n o ++ [.lst acc]) = .ok (f x) (h.set n o' ++ [.lst acc])) →
      ∃ (xs : List β) (o' : O), xs.length = ys.length ∧ (∀ x ∈ xs, R x) ∧ Cup (T + c * ys.length) o' ∧ lcF S h g tY e t (ys.map k) acc (h.set n o) = .ok (.lst (acc ++ xs.map f)) (h.set n o')
  | [], acc, o, T, lM, cu, L, H => by
    have st : S.still h (h.set n o ++ [O.lst acc]) := fun m hm => by
      obtain ⟨n1, n2⟩ := hw m hm
      rw [List.getElem?_append_left (by simpa using n2), set_off (Ne.symm n1)]
    refine ⟨[], o, rfl, (by intro x hx; cases hx), by simpa using cu, ?_⟩
    show lcF S h g tY e t [] acc (h.set n o) = _
    unfold lcF
    rw [if_pos ⟨st, shut_set (cu.clean _)⟩]
    simp
  | y :: ys, acc, o, T, lM, cu, L, H => by
    have lM2 : T + c * (ys.length + 1) ≤ M := lM
    rw [Nat.mul_add, Nat.mul_one] at lM2
    have L2 : acc.length + (ys.length + 1) ≤ 16777216 := L
    have st : S.still h (h.set n o ++ [O.lst acc]) := fun m hm => by
      obtain ⟨n1, n2⟩ := hw m hm
      rw [List.getElem?_append_left (by simpa using n2), set_off (Ne.symm n1)]
    obtain ⟨t1, e1, x, o', r, cu', e2⟩ := H y (List.mem_cons_self ..) acc o T cu (by omega)
    obtain ⟨xs, o2, l2, r2, cu2, e3⟩ := lc_pot k f c hf R h0 hw M (ys := ys) (acc := acc ++ [f x]) (o := o') (T := T + c) (by omega) cu' (by simp; omega) (fun z hz => H z (List.mem_cons_of_mem _ hz))
    refine ⟨x :: xs, o2, by simp [l2], fun z hz => ?_, cu2.mono (by rw [List.length_cons, Nat.mul_add]; omega), ?_⟩
    · rcases List.mem_cons.mp hz with rfl | hz
      · exact r
      · exact r2 z hz
    · show lcF S h g tY e t (k y :: ys.map k) acc (h.set n o) = _
      unfold lcF
      rw [if_pos st, e1]
      dsimp only [tY_at]
      rw [e2]
      dsimp only
      have sl : (h.set n o).length = h.length := by simp
      have ok : LcOk h.length acc (h.set n o) (h.set n o' ++ [.lst acc]) := by
        refine ⟨by rw [List.getElem?_append_right (by simp)]; simp, fun i q hi eq => ?_⟩
        by_cases i1 : i = n
        · subst i1
          have nl := (List.getElem?_eq_some_iff.mp h0).1
          rw [List.getElem?_append_left (by simpa using nl), set_at h0] at eq
          cases eq
          exact .inr (cu'.clean _)
        · left
          rw [← eq]
          by_cases i2 : i < h.length
          · rw [List.getElem?_append_left (by simpa using i2), List.getElem?_append_left (by simpa using i2), set_off (Ne.symm i1), set_off (Ne.symm i1)]
          · rw [List.getElem?_append_right (by simp; omega), List.getElem?_append_right (by simp; omega), List.length_set, List.length_set]
      have tk : (h.set n o' ++ [O.lst acc]).take h.length = h.set n o' := by
        rw [List.take_append_of_le_length (by simp), List.take_of_length_le (by simp)]
      rw [if_pos ⟨ok, clean_mono (Nat.zero_le _) (hf x), by omega⟩, tk, e3]
      simp
end
end AM

/-! PU12: loops with a count. -/
namespace AM
open PySem PySem.Spec PyProof.Rows L2
noncomputable section
/-- a loop, its state told by how many turns were made -/
theorem for_steps {α : Type} {S : Src} {h0 : AH} {g : GM} {b : SM} (k : α → P) (R : Nat → AM.Loc → AH → Prop) (hS : ∀ i t h, R i t h → S.still h0 h) :
    ∀ {ys : List α} {i : Nat}, (∀ j y, ys[j]? = some y → ∀ t h, R (i + j) t h → ∃ t1, g (k y) t h = some (t1, h) ∧ ∃ t2 h2, b t1 h = .nx t2 h2 ∧ R (i + j + 1) t2 h2) → ∀ t h, R i t h → ∃ t2 h2, forP S h0 g b (ys.map k) t h = .nx t2 h2 ∧ R (i + ys.length) t2 h2
  | [], i, H, t, h, r => ⟨t, h, by
    show forP S h0 g b [] t h = _
    unfold forP
    rw [if_pos (hS _ _ _ r)], r⟩
  | y :: ys, i, H, t, h, r => by
    obtain ⟨t1, e1, t2, h2, e2, r2⟩ := H 0 y rfl t h r
    obtain ⟨t3, h3, e3, r3⟩ := for_steps k R hS (ys := ys) (i := i + 1) (fun j z ez t h r => by
      have z := H (j + 1) z (by simpa using ez) t h (by rw [show i + (j + 1) = i + 1 + j by omega]; exact r)
      rw [show i + (j + 1) + 1 = i + 1 + j + 1 by omega] at z
      exact z) t2 h2 r2
    refine ⟨t3, h3, ?_, by rw [List.length_cons, show i + (ys.length + 1) = i + 1 + ys.length by omega]; exact r3⟩
    show forP S h0 g b (k y :: ys.map k) t h = _
    unfold forP
    rw [if_pos (hS _ _ _ r), e1]
    dsimp only
    rw [e2]
    dsimp only
    rw [e3]
theorem cmp_in_words (x : Str) (xs : List Str) (h : AH) : cmpV inP (.str x) (.lst (xs.map P.str)) h = .ok (decide (x ∈ xs)) h := by
  have z := cmp_in_strs x xs h
  refine cmpV_some ?_
  have y : inP (.str x) (.tup (xs.map P.str)) h = some (decide (x ∈ xs)) := by
    unfold cmpV at z
    split at z
    · rename_i k e
      cases z
      exact e
    · cases z
  have fl : flatP (.str x) = true ∧ (xs.map P.str).all flatP = true := ⟨rfl, flat_strs xs⟩
  have y2 : (if flatP (.str x) = true ∧ (xs.map P.str).all flatP = true then some ((xs.map P.str).any fun y => PyData.eqv (flatD y) (flatD (.str x))) else none) = some (decide (x ∈ xs)) := y
  rw [if_pos fl] at y2
  unfold inP
  dsimp only
  rw [if_pos fl]
  exact y2
theorem enumF_get {α : Type} : ∀ {xs : List α} {k j : Nat} {z : Nat × α}, (enumF k xs)[j]? = some z → z.1 = k + j ∧ xs[j]? = some z.2
  | [], _, _, _, h => by simp [enumF] at h
  | x :: xs, k, 0, z, h => by
    simp [enumF] at h
    subst h
    exact ⟨rfl, rfl⟩
  | x :: xs, k, j + 1, z, h => by
    have h : (enumF (k + 1) xs)[j]? = some z := by simpa [enumF] using h
    obtain ⟨a, b⟩ := enumF_get h
    exact ⟨by omega, by simpa using b⟩
end
end AM

/-! PU13: words of numbers. -/
namespace AM
open PySem PySem.Spec PyProof.Rows L2 TL
noncomputable section
def codes (i : Int) : List Nat := if i < 0 then 45 :: numL i.natAbs else numL i.natAbs
def strW (i : Int) : Str := ⟨(codes i).toArray⟩
def intW (i : Int) : Str := toString i
theorem tl_intW (i : Int) : tl (intW i) = codes i := by
  unfold codes
  cases i with
  | ofNat m =>
    rw [if_neg (by have : (0 : Int) ≤ Int.ofNat m := Int.natCast_nonneg m; omega)]
    exact tl_num m
  | negSucc m =>
    rw [if_pos (Int.negSucc_lt_zero m)]
    show (Str.ofString (toString (Int.negSucc m))).cps.toList = _
    rw [PyProof.Rows.signs_ofString]
    have e : toString (Int.negSucc m) = "-" ++ Nat.repr (m + 1) := rfl
    rw [e, String.toList_append, List.map_append, Nat.toList_repr]
    rfl
theorem intW_eq (i : Int) : intW i = strW i := ext_tl (by
  rw [tl_intW]
  unfold tl strW
  simp)
def okW (i : Int) : Bool := decide ((strW i).length ≤ 5) && decide (PySem.intText? (strW i) = some i) && figsOk (figs (strW i)) && !zeroBad (strW i) && wordy (strW i) && !(tl (strW i)).contains 47
def blkOk (b : Nat) : Bool := (List.range 50).all fun k => okW (((50 * b + k : Nat) : Int) - 1024)
theorem blk_0 : ([0, 1, 2, 3, 4] : List Nat).all blkOk = true := by decide +kernel
theorem blk_1 : ([5, 6, 7, 8, 9] : List Nat).all blkOk = true := by decide +kernel
theorem blk_2 : ([10, 11, 12, 13, 14] : List Nat).all blkOk = true := by decide +kernel
theorem blk_3 : ([15, 16, 17, 18, 19] : List Nat).all blkOk = true := by decide +kernel
theorem blk_4 : ([20, 21, 22, 23, 24] : List Nat).all blkOk = true := by decide +kernel
theorem blk_5 : ([25, 26, 27, 28, 29] : List Nat).all blkOk = true := by decide +kernel
theorem blk_6 : ([30, 31, 32, 33, 34] : List Nat).all blkOk = true := by decide +kernel
theorem blk_7 : ([35, 36, 37, 38, 39] : List Nat).all blkOk = true := by decide +kernel
theorem blk_8 : ([40] : List Nat).all blkOk = true := by decide +kernel
theorem okW_all : (List.range 41).all blkOk = true := by
  rw [show List.range 41 = ([0, 1, 2, 3, 4] : List Nat) ++ [5, 6, 7, 8, 9] ++ [10, 11, 12, 13, 14] ++ [15, 16, 17, 18, 19] ++ [20, 21, 22, 23, 24] ++ [25, 26, 27, 28, 29] ++ [30, 31, 32, 33, 34] ++ [35, 36, 37, 38, 39] ++ [40] from rfl]
  simp only [List.all_append, blk_0, blk_1, blk_2, blk_3, blk_4, blk_5, blk_6, blk_7, blk_8, Bool.and_true]
structure WordOk (i : Int) : Prop where
  len : (intW i).length ≤ 5
  back : PySem.intText? (intW i) = some i
  figs_ : figsOk (figs (intW i)) = true
  zero : zeroBad (intW i) = false
  word : wordy (intW i) = true
  bar : 47 ∉ tl (intW i)
theorem word_ok {i : Int} (h : i.natAbs ≤ 1000) : WordOk i := by
  have m1 : (i + 1024).toNat / 50 ∈ List.range 41 := List.mem_range.mpr (by omega)
  have m2 : (i + 1024).toNat % 50 ∈ List.range 50 := List.mem_range.mpr (by omega)
  have z1 := List.all_eq_true.mp okW_all _ m1
  unfold blkOk at z1
  have z := List.all_eq_true.mp z1 _ m2
  rw [show ((50 * ((i + 1024).toNat / 50) + (i + 1024).toNat % 50 : Nat) : Int) - 1024 = i by omega] at z
  unfold okW at z
  rw [← intW_eq] at z
  simp only [Bool.and_eq_true, decide_eq_true_eq, Bool.not_eq_true'] at z
  obtain ⟨⟨⟨⟨⟨z1, z2⟩, z3⟩, z4⟩, z5⟩, z6⟩ := z
  refine ⟨z1, z2, z3, z4, z5, fun m => ?_⟩
  rw [List.contains_iff_mem.mpr m] at z6
  cases z6
theorem f_str_int {i : Int} {h : AH} (l : i.natAbs.log2 < 1920) : fStr [.int i] h = .ok (.str (intW i)) h := by
  show (if i.natAbs.log2 < 1920 then Out.ok (P.str (toString i)) h else .bad) = _
  rw [if_pos l]
  rfl
end
end AM

/-! PU14: fractions as numbers. -/
namespace AM
open PySem PySem.Spec PyProof.Rows L2
noncomputable section
def val (x : Fr) : Rat := (x.1 : Rat) / (x.2 : Rat)
theorem cast_ne {z : Int} (h : z ≠ 0) : (z : Rat) ≠ 0 := fun e => h (by exact_mod_cast e)
theorem val_fr {p q : Int} (hq : 0 < q) : val (fr p q) = (p : Rat) / (q : Rat) := by
  have g0 : 0 < Int.gcd p q := Int.gcd_pos_of_ne_zero_right _ (by omega)
  obtain ⟨a, ha⟩ := Int.gcd_dvd_left p q
  obtain ⟨b, hb⟩ := Int.gcd_dvd_right p q
  generalize hg : Int.gcd p q = g at *
  have gz : ((g : Nat) : Int) ≠ 0 := by omega
  have e1 : p / ((g : Nat) : Int) = a := by
    rw [ha]
    exact Int.mul_ediv_cancel_left _ gz
  have e2 : q / ((g : Nat) : Int) = b := by
    rw [hb]
    exact Int.mul_ediv_cancel_left _ gz
  have b0 : b ≠ 0 := fun e => by rw [e] at hb; omega
  unfold val fr
  rw [hg]
  dsimp only
  rw [e1, e2]
  have h1 := cast_ne gz
  have h2 := cast_ne b0
  have h3 : (p : Rat) = (((g : Nat) : Int) : Rat) * (a : Rat) := by rw [ha]; exact Rat.intCast_mul _ _
  have h4 : (q : Rat) = (((g : Nat) : Int) : Rat) * (b : Rat) := by rw [hb]; exact Rat.intCast_mul _ _
  rw [h3, h4]
  generalize (((g : Nat) : Int) : Rat) = G at *
  generalize (a : Rat) = A at *
  generalize (b : Rat) = B at *
  grind
theorem val_plus {n m : Nat} {x y : Fr} (hx : FrOk n x) (hy : FrOk m y) : val (plusF x y) = val x + val y := by
  unfold plusF
  rw [val_fr (Int.mul_pos hx.pos hy.pos), Rat.intCast_add, Rat.intCast_mul, Rat.intCast_mul, Rat.intCast_mul]
  unfold val
  have h1 := cast_ne (z := x.2) (by have := hx.pos; omega)
  have h2 := cast_ne (z := y.2) (by have := hy.pos; omega)
  generalize (x.1 : Rat) = a at *
  generalize (x.2 : Rat) = b at *
  generalize (y.1 : Rat) = c at *
  generalize (y.2 : Rat) = d at *
  grind
theorem val_less {n m : Nat} {x y : Fr} (hx : FrOk n x) (hy : FrOk m y) : val (lessF x y) = val x - val y := by
  unfold lessF
  rw [val_fr (Int.mul_pos hx.pos hy.pos), Rat.intCast_sub, Rat.intCast_mul, Rat.intCast_mul, Rat.intCast_mul]
  unfold val
  have h1 := cast_ne (z := x.2) (by have := hx.pos; omega)
  have h2 := cast_ne (z := y.2) (by have := hy.pos; omega)
  generalize (x.1 : Rat) = a at *
  generalize (x.2 : Rat) = b at *
  generalize (y.1 : Rat) = c at *
  generalize (y.2 : Rat) = d at *
  grind
theorem val_times {n m : Nat} {x y : Fr} (hx : FrOk n x) (hy : FrOk m y) : val (timesF x y) = val x * val y := by
  unfold timesF
  rw [val_fr (Int.mul_pos hx.pos hy.pos), Rat.intCast_mul, Rat.intCast_mul]
  unfold val
  have h1 := cast_ne (z := x.2) (by have := hx.pos; omega)
  have h2 := cast_ne (z := y.2) (by have := hy.pos; omega)
  generalize (x.1 : Rat) = a at *
  generalize (x.2 : Rat) = b at *
  generalize (y.1 : Rat) = c at *
  generalize (y.2 : Rat) = d at *
  grind
theorem dvd_low {a b c : Int} (q : b ∣ a * c) (g : Int.gcd a b = 1) : b ∣ c := by
  have q2 : b.natAbs ∣ a.natAbs * c.natAbs := by
    rw [← Int.natAbs_mul]
    exact Int.natAbs_dvd_natAbs.mpr q
  have g2 : Nat.Coprime b.natAbs a.natAbs := by
    rw [Nat.coprime_comm]
    exact g
  exact Int.natAbs_dvd_natAbs.mp (Nat.Coprime.dvd_of_dvd_mul_left g2 q2)
/-- fractions in lowest terms of one number are one -/
theorem val_inj {n m : Nat} {x y : Fr} (hx : FrOk n x) (hy : FrOk m y) (e : val x = val y) : x = y := by
  have px := hx.pos
  have py := hy.pos
  have h1 := cast_ne (z := x.2) (by omega)
  have h2 := cast_ne (z := y.2) (by omega)
  have cr : x.1 * y.2 = y.1 * x.2 := by
    have : (x.1 : Rat) * (y.2 : Rat) = (y.1 : Rat) * (x.2 : Rat) := by
      unfold val at e
      generalize (x.1 : Rat) = a at *
      generalize (x.2 : Rat) = b at *
      generalize (y.1 : Rat) = c at *
      generalize (y.2 : Rat) = d at *
      grind
    rw [← Rat.intCast_mul, ← Rat.intCast_mul] at this
    exact_mod_cast this
  have d1 : x.2 ∣ y.2 := by
    have q : x.2 ∣ x.1 * y.2 := ⟨y.1, by rw [cr, Int.mul_comm]⟩
    exact dvd_low q hx.low
  have d2 : y.2 ∣ x.2 := by
    have q : y.2 ∣ y.1 * x.2 := ⟨x.1, by rw [← cr, Int.mul_comm]⟩
    exact dvd_low q hy.low
  have e2 : x.2 = y.2 := Int.dvd_antisymm (by omega) (by omega) d1 d2
  have e1 : x.1 = y.1 := by
    rw [e2] at cr
    exact Int.eq_of_mul_eq_mul_right (by omega) cr
  exact Prod.ext e1 e2
theorem val_nought (a : Int) : val (0, a) = 0 := by
  unfold val
  show ((0 : Int) : Rat) / _ = 0
  rw [Rat.div_def]
  have : ((0 : Int) : Rat) = 0 := rfl
  rw [this, Rat.zero_mul]
theorem val_zero {x : Fr} (h : x.1 = 0) : val x = 0 := by
  have : x = (0, x.2) := by rw [← h]
  rw [this]
  exact val_nought _
theorem val_minus : val (-1, 1) = -1 := by
  unfold val
  decide +kernel
/-! rows, place by place -/
theorem rows_eq {n m : Nat} {r s : List Fr} (hr : RowOk n r) (hs : RowOk m s) (l : r.length = s.length) (e : ∀ (j : Nat) (h1 : j < r.length) (h2 : j < s.length), val r[j] = val s[j]) : r = s :=
  List.ext_getElem l fun j h1 h2 => val_inj (hr _ (List.getElem_mem h1)) (hs _ (List.getElem_mem h2)) (e j h1 h2)
/-- the j-th number of a row -/
def at_ (r : List Fr) (j : Nat) : Rat := match r[j]? with
  | some x => val x
  | none => 0
theorem at_some {r : List Fr} {j : Nat} (h : j < r.length) : at_ r j = val r[j] := by
  unfold at_
  rw [List.getElem?_eq_getElem h]
theorem rows_same {n m : Nat} {r s : List Fr} (hr : RowOk n r) (hs : RowOk m s) (l : r.length = s.length) (e : ∀ j, j < r.length → at_ r j = at_ s j) : r = s :=
  rows_eq hr hs l fun j h1 h2 => by
    have z := e j h1
    rw [at_some h1, at_some h2] at z
    exact z
theorem zip_get {f : Fr → Fr → Fr} {r s : List Fr} {j : Nat} (h1 : j < r.length) (h2 : j < s.length) : (zipF f r s)[j]? = some (f r[j] s[j]) := by
  unfold zipF
  rw [List.getElem?_map, (List.getElem?_zip_eq_some (z := (r[j], s[j]))).mpr ⟨List.getElem?_eq_getElem h1, List.getElem?_eq_getElem h2⟩]
  rfl
theorem zip_len {f : Fr → Fr → Fr} {r s : List Fr} : (zipF f r s).length = min r.length s.length := by
  unfold zipF
  rw [List.length_map, List.length_zip]
theorem at_plus {n m : Nat} {r s : List Fr} (hr : RowOk n r) (hs : RowOk m s) {j : Nat} (h1 : j < r.length) (h2 : j < s.length) : at_ (rowPlus r s) j = at_ r j + at_ s j := by
  rw [at_some h1, at_some h2, ← val_plus (hr _ (List.getElem_mem h1)) (hs _ (List.getElem_mem h2))]
  unfold at_ rowPlus
  rw [zip_get h1 h2]
theorem at_less {n m : Nat} {r s : List Fr} (hr : RowOk n r) (hs : RowOk m s) {j : Nat} (h1 : j < r.length) (h2 : j < s.length) : at_ (rowLess r s) j = at_ r j - at_ s j := by
  rw [at_some h1, at_some h2, ← val_less (hr _ (List.getElem_mem h1)) (hs _ (List.getElem_mem h2))]
  unfold at_ rowLess
  rw [zip_get h1 h2]
theorem at_times {n m : Nat} {r : List Fr} {b : Fr} (hr : RowOk n r) (hb : FrOk m b) {j : Nat} (h1 : j < r.length) : at_ (rowTimes r b) j = at_ r j * val b := by
  rw [at_some h1, ← val_times (hr _ (List.getElem_mem h1)) hb]
  unfold at_ rowTimes
  rw [List.getElem?_map, List.getElem?_eq_getElem h1]
  rfl
theorem at_noughts {k j : Nat} (h : j < k) : at_ (List.replicate k ((0, 1) : Fr)) j = 0 := by
  rw [at_some (by rw [List.length_replicate]; exact h), List.getElem_replicate]
  exact val_nought 1
end
end AM

/-! PU15: rows of fractions are shown. -/
namespace AM
open PySem PySem.Spec PyProof.Rows L2 TL
noncomputable section
theorem big_600 : (2 : Nat) ^ 600 < 10 ^ 200 := by decide +kernel
theorem int_shown {i : Int} (h : i.natAbs < 2 ^ 600) : (PyData.shown (.int i)).length ≤ 201 := by
  have e : PyData.shown (.int i) = intW i := rfl
  have l := numL_len (n := i.natAbs) (k := 200) (by decide) (Nat.lt_trans h big_600)
  rw [e, len_tl, tl_intW]
  unfold codes
  split
  · rw [List.length_cons]
    omega
  · omega
theorem short_map {α : Type} (B : Nat) (d : α → PyData) : ∀ {l : List α}, (∀ a ∈ l, PyData.leavesShort B (d a) = true) → PyData.leavesShortAll B (l.map d) = true
  | [], _ => rfl
  | a :: l, h => by
    show (PyData.leavesShort B (d a) && PyData.leavesShortAll B (l.map d)) = true
    rw [h a (List.mem_cons_self ..), short_map B d fun b hb => h b (List.mem_cons_of_mem _ hb)]
    rfl
theorem show_map {α : Type} (d : α → PyData) : ∀ {l : List α}, (∀ a ∈ l, PyData.showable (d a) = true) → PyData.showableAll (l.map d) = true
  | [], _ => rfl
  | a :: l, h => by
    show (PyData.showable (d a) && PyData.showableAll (l.map d)) = true
    rw [h a (List.mem_cons_self ..), show_map d fun b hb => h b (List.mem_cons_of_mem _ hb)]
    rfl
theorem dict_map {α : Type} (d : α → PyData) : ∀ {l : List α}, (∀ a ∈ l, PyData.hasDict (d a) = false) → PyData.hasDictAll (l.map d) = false
  | [], _ => rfl
  | a :: l, h => by
    show (PyData.hasDict (d a) || PyData.hasDictAll (l.map d)) = false
    rw [h a (List.mem_cons_self ..), dict_map d fun b hb => h b (List.mem_cons_of_mem _ hb)]
    rfl
theorem bulk_map {α : Type} (d : α → PyData) (k : Nat) : ∀ {l : List α}, (∀ a ∈ l, PyData.bulk (d a) ≤ k) → PyData.bulkAll (l.map d) ≤ l.length * (k + 1)
  | [], _ => Nat.zero_le _
  | a :: l, h => by
    show PyData.bulk (d a) + 1 + PyData.bulkAll (l.map d) ≤ (l.length + 1) * (k + 1)
    have h1 := h a (List.mem_cons_self ..)
    have h2 := bulk_map d k (l := l) fun b hb => h b (List.mem_cons_of_mem _ hb)
    rw [Nat.add_mul l.length]
    omega
theorem rat_short {x : Fr} (h : FrOk 600 x) : PyData.leavesShort 201 (ratD x) = true := by
  show (decide ((PyData.shown (.int x.1)).length ≤ 201) && (decide ((PyData.shown (.int x.2)).length ≤ 201) && true)) = true
  rw [decide_eq_true (int_shown h.top), decide_eq_true (int_shown h.bot)]
  rfl
theorem rat_show {x : Fr} (h : FrOk 600 x) : PyData.showable (ratD x) = true := by
  show (decide (x.1.natAbs.log2 < 1920) && (decide (x.2.natAbs.log2 < 1920) && true)) = true
  rw [decide_eq_true (Nat.lt_of_le_of_lt (log2_le h.top) (by decide)), decide_eq_true (Nat.lt_of_le_of_lt (log2_le h.bot) (by decide))]
  rfl
theorem row_bulk (r : List Fr) (l : r.length ≤ 20) : PyData.bulk (rowD r) ≤ 60 := by
  have z := bulk_map ratD 2 (l := r) fun a _ => (show (2 : Nat) ≤ 2 from Nat.le_refl _)
  show PyData.bulkAll (r.map ratD) ≤ 60
  omega
theorem shown_pl {rows : List (List Fr)} (hr : ∀ r ∈ rows, RowOk 600 r ∧ r.length ≤ 20) (l : rows.length ≤ 30) : shownOk (plD rows) = true := by
  refine shown_ok 201 (by decide) ?_ ?_ ?_ ?_ ?_
  · exact show_map rowD fun r h => show_map ratD fun x hx => rat_show ((hr r h).1 x hx)
  · exact dict_map rowD fun r h => dict_map ratD fun x hx => rfl
  · have z := depth_map rowD 2 (fun r => depth_row r) rows
    show PyData.depthAll (rows.map rowD) + 1 ≤ 60
    omega
  · exact short_map 201 rowD fun r h => short_map 201 ratD fun x hx => rat_short ((hr r h).1 x hx)
  · have z := bulk_map rowD 60 (l := rows) fun r h => row_bulk r (hr r h).2
    show (201 + 2) * PyData.bulkAll (rows.map rowD) + 201 ≤ 16777216
    omega
theorem repr_pl {rows : List (List Fr)} (hr : ∀ r ∈ rows, RowOk 600 r ∧ r.length ≤ 20) (l : rows.length ≤ 30) (h : AH) : fRepr [plP rows] h = .ok (.str (plD rows).shown) h := repr_dat (dat_pl h rows) (shown_pl hr l)
theorem trim_get {h0 h : AH} {p : P} {i : Nat} (l : i < h0.length) : (trim h0 p h)[i]? = h[i]? := by
  unfold trim
  split
  · rw [List.getElem?_take, if_pos l]
  · rfl
theorem trim_le {h0 h : AH} {p : P} (l : h0.length ≤ h.length) : h0.length ≤ (trim h0 p h).length := by
  unfold trim
  split
  · rw [List.length_take]
    omega
  · exact l
end
end AM


/-! fractions -/
namespace K14
open PySem PySem.Spec PyProof.Rows L2 AM
noncomputable section
theorem p_is_whole (p : P) (T : String) (h : AH) (e : tyP h p = some T) : m_is_whole [p] h = .ok (.bl (tyB T "int" && !tyB T "bool")) h := by
  refine fn_rt0 ?_
  unfold b_is_whole
  simp [e]
  cases h1 : tyB T "int" <;> simp [e]
/-- Euclid -/
theorem p_common (a b : Int) (h : AH) : m_common [.int a, .int b] h = .ok (.int (Int.gcd a b : Nat)) h := by
  refine fn_rt0 ?_
  unfold b_common
  obtain ⟨t2, h2, ⟨x, et, eg, eh⟩, _, ew⟩ := while_run (c := tCp gtP (eV 1) (eC (.int 0))) (b := sPar 0 1 (lC (eV 1) (lC (eB vMod (eV 0) (eV 1)) lN))) (fun n t h2 => ∃ x : Nat, t = [some (.int x), some (.int n)] ∧ Nat.gcd x n = Int.gcd a b ∧ h2 = h) (by
    rintro n t h2 ⟨x, rfl, eg, rfl⟩
    by_cases hn : n = 0
    · subst hn
      exact .inl ⟨h2, by simp, rfl, rfl⟩
    · have hp : 0 < n := by omega
      refine .inr ⟨h2, [some (.int (n : Nat)), some (.int ((x % n : Nat) : Int))], h2, x % n, ?_, .inl ?_, Nat.mod_lt _ (by omega), n, rfl, ?_, rfl⟩
      · simp [hp]
      · simp [hp]
      · rw [← eg, Nat.gcd_comm x n, Nat.gcd_rec n x, Nat.gcd_comm]) b.natAbs (t := [some (.int (a.natAbs : Nat)), some (.int (b.natAbs : Nat))]) (h := h) ⟨a.natAbs, rfl, rfl, rfl⟩
  simp at ew ⊢
  rw [ew]
  subst et eh
  simp at eg ⊢
  rw [eg]
end
end K14


/-! fractions, rows -/
namespace K14
open PySem PySem.Spec PyProof.Rows L2 AM
noncomputable section
theorem p_ratio (a b : Int) (h : AH) (hb : 0 < b) (l : b.natAbs < 2 ^ 8999) : m_ratio [.int a, .int b] h = .ok (ratP (fr a b)) h := by
  have g0 : 0 < Int.gcd a b := Int.gcd_pos_of_ne_zero_right _ (by omega)
  have gl : (Int.gcd a b) ≤ b.natAbs := Int.gcd_le_natAbs_right _ (by omega)
  have g1 : (0 : Int) < (Int.gcd a b : Nat) := by omega
  have g2 : ((Int.gcd a b : Nat) : Int).natAbs.log2 < 9000 := by
    have := log2_le (n := Int.gcd a b) (b := 8999) (by omega)
    rw [Int.natAbs_natCast]
    omega
  refine fn_rt0 ?_
  unfold b_ratio
  simp [p_common, hb, v_div _ g1 g2]
  rfl
theorem p_plus {n m : Nat} {x y : Fr} (h : AH) (hx : FrOk n x) (hy : FrOk m y) (l : n + m < 8999) : m_plus [ratP x, ratP y] h = .ok (ratP (plusF x y)) h := by
  refine fn_rt0 ?_
  unfold b_plus
  have e1 := mulOk_of hx.top hy.bot (by omega)
  have e2 := mulOk_of hy.top hx.bot (by omega)
  have e3 := mulOk_of hx.bot hy.bot (by omega)
  have e4 : (x.2 * y.2).natAbs < 2 ^ 8999 := by
    rw [Int.natAbs_mul]
    exact Nat.lt_of_lt_of_le (mul_lt hx.bot hy.bot) (Nat.pow_le_pow_right (by omega) (by omega))
  simp [ratP, v_mul _ e1, v_mul _ e2, v_mul _ e3, p_ratio _ _ _ (Int.mul_pos hx.pos hy.pos) e4]
  exact ⟨rfl, rfl⟩
theorem p_less {n m : Nat} {x y : Fr} (h : AH) (hx : FrOk n x) (hy : FrOk m y) (l : n + m < 8999) : m_less [ratP x, ratP y] h = .ok (ratP (lessF x y)) h := by
  refine fn_rt0 ?_
  unfold b_less
  have e1 := mulOk_of hx.top hy.bot (by omega)
  have e2 := mulOk_of hy.top hx.bot (by omega)
  have e3 := mulOk_of hx.bot hy.bot (by omega)
  have e4 : (x.2 * y.2).natAbs < 2 ^ 8999 := by
    rw [Int.natAbs_mul]
    exact Nat.lt_of_lt_of_le (mul_lt hx.bot hy.bot) (Nat.pow_le_pow_right (by omega) (by omega))
  simp [ratP, v_mul _ e1, v_mul _ e2, v_mul _ e3, p_ratio _ _ _ (Int.mul_pos hx.pos hy.pos) e4]
  exact ⟨rfl, rfl⟩
theorem p_times {n m : Nat} {x y : Fr} (h : AH) (hx : FrOk n x) (hy : FrOk m y) (l : n + m < 8999) : m_times [ratP x, ratP y] h = .ok (ratP (timesF x y)) h := by
  refine fn_rt0 ?_
  unfold b_times
  have e1 := mulOk_of hx.top hy.top (by omega)
  have e3 := mulOk_of hx.bot hy.bot (by omega)
  have e4 : (x.2 * y.2).natAbs < 2 ^ 8999 := by
    rw [Int.natAbs_mul]
    exact Nat.lt_of_lt_of_le (mul_lt hx.bot hy.bot) (Nat.pow_le_pow_right (by omega) (by omega))
  simp [ratP, v_mul _ e1, v_mul _ e3, p_ratio _ _ _ (Int.mul_pos hx.pos hy.pos) e4]
  exact ⟨rfl, rfl⟩
/-! rows -/
theorem p_row_plus {n m : Nat} {r s : List Fr} (h : AH) (hr : RowOk n r) (hs : RowOk m s) (l : n + m < 8999) (L : r.length ≤ 1000) : m_row_plus [rowP r, rowP s] h = .ok (rowP (rowPlus r s)) h := by
  refine fn_rt0 ?_
  unfold b_row_plus
  simp [rowP, eLc_at, zipP_map]
  rw [lc_map0 _ (fun z => ratP (plusF z.1 z.2))]
  · simp [rowPlus, zipF, Function.comp_def]
  · simp
    omega
  · rintro ⟨x, y⟩ hxy hh
    have hm := List.of_mem_zip hxy
    exact ⟨_, by simp; rfl, by simp [p_plus _ (hr x hm.1) (hs y hm.2) l], rfl⟩
theorem p_row_less {n m : Nat} {r s : List Fr} (h : AH) (hr : RowOk n r) (hs : RowOk m s) (l : n + m < 8999) (L : r.length ≤ 1000) : m_row_less [rowP r, rowP s] h = .ok (rowP (rowLess r s)) h := by
  refine fn_rt0 ?_
  unfold b_row_less
  simp [rowP, eLc_at, zipP_map]
  rw [lc_map0 _ (fun z => ratP (lessF z.1 z.2))]
  · simp [rowLess, zipF, Function.comp_def]
  · simp
    omega
  · rintro ⟨x, y⟩ hxy hh
    have hm := List.of_mem_zip hxy
    exact ⟨_, by simp; rfl, by simp [p_less _ (hr x hm.1) (hs y hm.2) l], rfl⟩
theorem p_row_times {n m : Nat} {r : List Fr} {b : Fr} (h : AH) (hr : RowOk n r) (hb : FrOk m b) (l : n + m < 8999) (L : r.length ≤ 1000) : m_row_times [rowP r, ratP b] h = .ok (rowP (rowTimes r b)) h := by
  refine fn_rt0 ?_
  unfold b_row_times
  simp [rowP, eLc_at]
  rw [lc_map0 _ (fun z => ratP (timesF z b))]
  · simp [rowTimes, Function.comp_def]
  · omega
  · rintro x hx hh
    exact ⟨_, by simp; rfl, by simp [p_times _ (hr x hx) hb l], rfl⟩
end
end K14


/-! rows' sums, what is a fraction, words -/
namespace K14
open PySem PySem.Spec PyProof.Rows L2 AM
noncomputable section
theorem p_is_ratio2 (a b : Int) (h : AH) : m_is_ratio [.tup [.int a, .int b]] h = .ok (.bl (decide (1 ≤ b) && (((Int.gcd a b : Nat) : Int) == 1))) h := by
  refine fn_rt0 ?_
  unfold b_is_ratio
  have e : lcF ⟨[P.int a, P.int b].map id, []⟩ h (gN 1) tY (eCall 1 m_is_whole (lC (eV 1) lN)) [some (P.tup [P.int a, P.int b]), none] ([P.int a, P.int b].map id) [] h = .ok (.lst ([P.int a, P.int b].map fun _ => .bl true)) h := by
    refine lc_map0 _ _ (by simp) fun y hy hh => ?_
    have hy : y = .int a ∨ y = .int b := by simpa using hy
    refine ⟨_, rfl, ?_, rfl⟩
    rcases hy with rfl | rfl <;> simp [p_is_whole _ "int" _ (ty_int _ _), tyB]
  have e2 := f_all [true, true] h
  simp at e e2
  simp [eLc_at, e, e2, p_common, tyB]
  by_cases hb : 1 ≤ b <;> simp [hb]
theorem p_is_ratio {n : Nat} {x : Fr} (h : AH) (hx : FrOk n x) : m_is_ratio [ratP x] h = .ok (.bl true) h := by
  have e := p_is_ratio2 x.1 x.2 h
  have p1 : 1 ≤ x.2 := hx.pos
  rw [show ratP x = .tup [.int x.1, .int x.2] from rfl, e, hx.low]
  simp [p1]
theorem p_is_rate {n : Nat} {x : Fr} (h : AH) (hx : FrOk n x) : m_is_rate [ratP x] h = .ok (.bl (decide (0 ≤ x.1))) h := by
  refine fn_rt0 ?_
  unfold b_is_rate
  simp [p_is_ratio _ hx]
  simp [ratP]
theorem p_is_integer (i lo hi : Int) (h : AH) : m_is_integer [.int i, .int lo, .int hi] h = .ok (.bl (decide (lo ≤ i) && decide (i ≤ hi))) h := by
  refine fn_rt0 ?_
  unfold b_is_integer
  simp [p_is_whole _ "int" _ (ty_int _ _), tyB]
  by_cases h1 : lo ≤ i <;> simp [h1]
theorem p_is_integer_non (lo hi : Int) (h : AH) : m_is_integer [.non, .int lo, .int hi] h = .ok (.bl false) h := by
  refine fn_rt0 ?_
  unfold b_is_integer
  simp [p_is_whole _ "NoneType" _ (ty_non _), tyB]
theorem p_is_tuple (xs : List P) (lo hi : Int) (h : AH) : m_is_tuple [.tup xs, .int lo, .int hi] h = .ok (.bl (decide (lo ≤ (xs.length : Int)) && decide ((xs.length : Int) ≤ hi))) h := by
  refine fn_rt0 ?_
  unfold b_is_tuple
  simp [tyB]
  by_cases h1 : lo ≤ (xs.length : Int) <;> simp [h1]
theorem p_is_number {n : Nat} {x : Fr} (h : AH) (hx : FrOk n x) : m_is_number [ratP x] h = .ok (.bl (decide ((x.1.natAbs : Int) ≤ 1000) && decide (x.2 ≤ 60))) h := by
  refine fn_rt0 ?_
  unfold b_is_number
  simp [p_is_ratio _ hx]
  simp [ratP]
  by_cases h1 : (x.1.natAbs : Int) ≤ 1000 <;> simp [h1]
/-! words -/
theorem p_whole_in {w : Str} (h : AH) (l : w.length ≤ 16777216) (hv : figsOk (figs w) = true → zeroBad w = false → ∃ n, PySem.intText? w = some n ∧ w.length ≤ 640) : m_whole_in [.str w] h = .ok (optI (wholeO w)) h := by
  refine fn_rt0 ?_
  unfold b_whole_in
  have lf : (figs w).length ≤ 16777216 := by
    unfold figs
    split
    · exact Nat.le_trans (cutS_len _ _ _) l
    · exact l
  have ef : (if cutS w none (some 1) = ("-" : Str) then (Out.ok (P.str (cutS w (some 1) none)) h : Out P) else .ok (P.str w) h) = .ok (.str (figs w)) h := by
    unfold figs
    split <;> rfl
  have e : ∀ hh : AH, lcF ⟨(figs w).cps.toList.map fun c => P.str ⟨#[c]⟩, []⟩ hh (gN 2) tY (eCmp inP (eV 2) (eC (.str "0123456789"))) [some (.str w), some (.str (figs w)), none] ((figs w).cps.toList.map fun c => P.str ⟨#[c]⟩) [] hh = .ok (.lst ((figs w).cps.toList.map fun c => .bl (inStr ⟨#[c]⟩ "0123456789"))) hh := fun hh => by
    refine lc_map0 _ _ (by rw [Array.length_toList]; exact lf) fun y hy hh => ?_
    exact ⟨_, rfl, by simp, rfl⟩
  have e2 := f_all ((figs w).cps.toList.map fun c => inStr ⟨#[c]⟩ "0123456789") h
  rw [List.map_map] at e2
  simp only [Function.comp_def] at e2
  have z1 : (figs w).length = (figs w).cps.toList.length := by rw [Array.length_toList]; rfl
  simp [slice_str l, ef, len_str lf]
  by_cases c1 : 1 ≤ ((figs w).length : Int)
  · by_cases c2 : ((figs w).length : Int) ≤ 4000
    · simp [c1, c2, eLc_at, e]
      rw [e2]
      have fo : figsOk (figs w) = ((figs w).cps.toList.map fun c => inStr ⟨#[c]⟩ "0123456789").all id := by
        unfold figsOk
        rw [decide_eq_true c1, decide_eq_true c2]
        rfl
      generalize ((figs w).cps.toList.map fun c => inStr ⟨#[c]⟩ "0123456789").all id = B at fo
      cases B with
      | false =>
        simp
        unfold wholeO
        rw [fo]
        simp [optI]
      | true =>
        have hc : ∃ c0, atI (figs w).cps.toList 0 = some c0 := by
          cases q : (figs w).cps.toList with
          | nil =>
            rw [q] at z1
            rw [z1] at c1
            simp at c1
          | cons a r => exact ⟨a, atI_0 a r⟩
        obtain ⟨c0, hc⟩ := hc
        have zb : zeroBad w = ((⟨#[c0]⟩ : Str) == "0" && !(w == ("0" : Str))) := by
          unfold zeroBad
          rw [hc]
        have wo : wholeO w = if zeroBad w = false then PySem.intText? w else none := by
          unfold wholeO
          rw [fo]
          simp
        rw [wo]
        simp [item_str lf hc]
        by_cases d1 : (⟨#[c0]⟩ : Str) = "0"
        · by_cases d2 : w = ("0" : Str)
          · have zb2 : zeroBad w = false := by rw [zb]; simp [d2]
            obtain ⟨n, hn, hl⟩ := hv fo zb2
            have ei : ∀ hh : AH, fInt [.str w] hh = .ok (.int n) hh := fun hh => int_str hn hl
            have d3 : (w == ("0" : Str)) = true := by rw [d2]; exact beq_self_eq_true _
            rw [zb2, hn, d3]
            simp [d1, ei, optI]
          · have zb2 : zeroBad w = true := by rw [zb]; simp [d1, d2]
            rw [zb2]
            simp [d1, d2, optI]
        · have zb2 : zeroBad w = false := by rw [zb]; simp [d1]
          obtain ⟨n, hn, hl⟩ := hv fo zb2
          have ei : ∀ hh : AH, fInt [.str w] hh = .ok (.int n) hh := fun hh => int_str hn hl
          rw [zb2, hn]
          simp [d1, ei, optI]
    · simp [c1, c2]
      unfold wholeO figsOk
      simp [c2, optI]
  · simp [c1]
    unfold wholeO figsOk
    simp [c1, optI]
end
end K14


/-! words, lines -/
namespace K14
open PySem PySem.Spec PyProof.Rows L2 AM
noncomputable section
/-- the word tells the whole number -/
def WhIs (w : Str) (i : Int) : Prop := ∀ h, m_whole_in [.str w] h = .ok (.int i) h
/-- the word tells the fraction -/
def WordIs (w : Str) (x : Fr) : Prop := ∀ h, m_ratio_in [.str w] h = .ok (ratP x) h
theorem whIs_of {w : Str} {i : Int} (l : w.length ≤ 640) (e : PySem.intText? w = some i) (f : figsOk (figs w) = true) (z : zeroBad w = false) : WhIs w i := fun h => by
  rw [p_whole_in h (by omega) (fun _ _ => ⟨i, e, l⟩)]
  unfold wholeO
  rw [f, z, e]
  rfl
theorem p_ratio_in1 {w a : Str} {i : Int} (l : w.length + 2 ≤ 16777216) (s : Txt.split w "/" = [a]) (ha : WhIs a i) : WordIs w (i, 1) := fun h => by
  refine fn_rt0 ?_
  unfold b_ratio_in
  have e : ∀ hh : AH, lcF ⟨[a].map P.str, []⟩ hh (gN 3) tY (eCall 1 m_whole_in (lC (eV 3) lN)) [some (.str w), none, none, none] ([a].map P.str) [] hh = .ok (.lst ([a].map fun _ => .int i)) hh := fun hh => by
    refine lc_map0 _ _ (by simp) fun y hy hh => ?_
    have hy : y = a := by simpa using hy
    subst hy
    exact ⟨_, rfl, by simp [ha hh], rfl⟩
  simp at e
  simp [split_str l (show (("/" : Str).length == 0) = false by decide), s, eLc_at, e]
  rfl
theorem p_ratio_in2 {w a b : Str} {n : Nat} {x : Fr} (l : w.length + 2 ≤ 16777216) (s : Txt.split w "/" = [a, b]) (ha : WhIs a x.1) (hb : WhIs b x.2) (hx : FrOk n x) (h1 : 1 < x.2) : WordIs w x := fun h => by
  refine fn_rt0 ?_
  unfold b_ratio_in
  have e : ∀ hh : AH, lcF ⟨[(a, x.1), (b, x.2)].map fun z => P.str z.1, []⟩ hh (gN 3) tY (eCall 1 m_whole_in (lC (eV 3) lN)) [some (.str w), none, none, none] ([(a, x.1), (b, x.2)].map fun z => P.str z.1) [] hh = .ok (.lst ([(a, x.1), (b, x.2)].map fun z => .int z.2)) hh := fun hh => by
    refine lc_map0 _ _ (by simp) fun y hy hh => ?_
    have hy : y = (a, x.1) ∨ y = (b, x.2) := by simpa using hy
    rcases hy with rfl | rfl
    · exact ⟨_, rfl, by simp [ha hh], rfl⟩
    · exact ⟨_, rfl, by simp [hb hh], rfl⟩
  simp at e
  have r := p_is_ratio h hx
  unfold ratP at r
  simp [split_str l (show (("/" : Str).length == 0) = false by decide), s, eLc_at, e]
  have c0 : cmpV inP .non (.lst [.int x.1, .int x.2]) h = .ok false h := rfl
  simp [c0, h1, r]
  rfl
theorem p_lines_of {w : Str} (h : AH) (l : w.length + 2 ≤ 16777216) (hl : ∀ x ∈ Txt.split w "\n", x.length + 2 ≤ 16777216) (hn : (Txt.split w "\n").length ≤ 16777216) : m_lines_of [.str w] h = .ok (.lst ((Txt.split w "\n").map fun x => .lst ((Txt.split x " ").map P.str))) h := by
  refine fn_rt0 ?_
  unfold b_lines_of
  simp [split_str l (show (("\n" : Str).length == 0) = false by decide), eLc_at]
  rw [lc_map0 _ (fun x => P.lst ((Txt.split x " ").map P.str)) hn]
  · simp
  · intro y hy hh
    refine ⟨_, rfl, by simp [split_str (hl y hy) (show ((" " : Str).length == 0) = false by decide)], ?_⟩
    show cleans _ ((Txt.split y " ").map P.str) = true
    refine cleans_all fun p hp => ?_
    obtain ⟨z, _, rfl⟩ := List.mem_map.mp hp
    rfl
theorem p_coords_in {w : Str} {k : Int} (h : AH) (hw : WhIs w k) (h1 : 1 ≤ k) (h2 : k ≤ 3) : m_coords_in [.lst [.str "net", .str w]] h = .ok (.int k) h := by
  refine fn_rt0 ?_
  unfold b_coords_in
  simp [hw h, p_is_integer, h1, h2]
/-- as many words as fractions, told by them -/
inductive WordsAre : List Str → List Fr → Prop where
  | nil : WordsAre [] []
  | cons {w : Str} {x : Fr} {ws : List Str} {xs : List Fr} (h : WordIs w x) (t : WordsAre ws xs) : WordsAre (w :: ws) (x :: xs)
theorem WordsAre.len {ws : List Str} {xs : List Fr} (h : WordsAre ws xs) : ws.length = xs.length := by
  induction h with
  | nil => rfl
  | cons _ _ ih => simp [ih]
theorem WordsAre.mem {ws : List Str} {xs : List Fr} (h : WordsAre ws xs) : ∀ z ∈ ws.zip xs, WordIs z.1 z.2 := by
  induction h with
  | nil => intro z hz; simp at hz
  | cons a _ ih =>
    intro z hz
    rw [List.zip_cons_cons] at hz
    rcases List.mem_cons.mp hz with rfl | hz
    · exact a
    · exact ih z hz
theorem zip_fst {α β : Type} : ∀ {xs : List α} {ys : List β}, xs.length = ys.length → (xs.zip ys).map (·.1) = xs
  | [], _, _ => by simp
  | _ :: _, [], h => by simp at h
  | x :: xs, y :: ys, h => by
    rw [List.zip_cons_cons, List.map_cons, zip_fst (by simpa using h)]
theorem zip_snd {α β : Type} : ∀ {xs : List α} {ys : List β}, xs.length = ys.length → (xs.zip ys).map (·.2) = ys
  | [], [], _ => rfl
  | [], _ :: _, h => by simp at h
  | _ :: _, [], h => by simp at h
  | x :: xs, y :: ys, h => by
    rw [List.zip_cons_cons, List.map_cons, zip_snd (by simpa using h)]
/-- a number within its bounds -/
def NumOk (x : Fr) : Prop := FrOk 10 x ∧ x.1.natAbs ≤ 1000 ∧ x.2 ≤ 60
theorem p_numbers_in {ws : List Str} {xs : List Fr} (h : AH) (hw : WordsAre ws xs) (hx : ∀ x ∈ xs, NumOk x) (L : ws.length ≤ 1000) : m_numbers_in [.lst (ws.map P.str), .int (ws.length : Nat)] h = .ok (rowP xs) h := by
  refine fn_rt0 ?_
  unfold b_numbers_in
  have e : ∀ t hh, t = [some (P.lst (ws.map P.str)), some (.int (ws.length : Nat)), none, none, none] → lcF ⟨ws.map P.str, []⟩ hh (gN 3) tY (eCall 1 m_ratio_in (lC (eV 3) lN)) t (ws.map P.str) [] hh = .ok (.lst (xs.map ratP)) hh := by
    rintro t hh rfl
    have z := lc_map0 (ys := ws.zip xs) (h := hh) (g := gN 3) (e := eCall 1 m_ratio_in (lC (eV 3) lN)) (t := [some (P.lst (ws.map P.str)), some (.int (ws.length : Nat)), none, none, none]) (fun z => P.str z.1) (fun z => ratP z.2) (by rw [List.length_zip]; omega) fun y hy hh => ⟨_, rfl, by simp [hw.mem y hy hh], rfl⟩
    have q1 : (ws.zip xs).map (fun z => P.str z.1) = ws.map P.str := by
      have y := congrArg (List.map P.str) (zip_fst hw.len)
      rwa [List.map_map] at y
    have q2 : (ws.zip xs).map (fun z => ratP z.2) = xs.map ratP := by
      have y := congrArg (List.map ratP) (zip_snd hw.len)
      rwa [List.map_map] at y
    rw [q1, q2] at z
    exact z
  have e2 : ∀ t hh, t = [some (P.lst (ws.map P.str)), some (.int (ws.length : Nat)), some (.lst (xs.map ratP)), none, none] → lcF ⟨xs.map ratP, []⟩ hh (gN 4) tY (eCall 1 m_is_number (lC (eV 4) lN)) t (xs.map ratP) [] hh = .ok (.lst (xs.map fun _ => .bl true)) hh := by
    rintro t hh rfl
    refine lc_map0 _ _ (by rw [← hw.len]; omega) fun y hy hh => ?_
    obtain ⟨o1, o2, o3⟩ := hx y hy
    exact ⟨_, rfl, by simp [p_is_number _ o1, o2, o3]; omega, rfl⟩
  have e3 := f_all (xs.map fun _ => true) h
  rw [List.map_map] at e3
  simp only [Function.comp_def] at e3
  simp [eLc_at, e, e2, hw.len, e3]
  rfl
end
end K14


/-! nets that are read -/
namespace K14
open PySem PySem.Spec PyProof.Rows L2 AM
noncomputable section
structure NetR where
  text : Str
  coords : Nat
  pegs : List (Str × List Fr)
  rings : List (Str × List Fr × List Fr)
  cords : List (Str × Str)
def pairP (c : Str × Str) : P := .tup [.str c.1, .str c.2]
def NetR.ringNames (N : NetR) : List Str := N.rings.map (·.1)
def NetR.pegNames (N : NetR) : List Str := N.pegs.map (·.1)
def NetR.names (N : NetR) : List Str := N.pegNames ++ N.ringNames
def pegK (l : List (Str × List Fr)) : List (Key × P) := l.map fun z => (.inr z.1, rowP z.2)
def ringK (l : List (Str × List Fr × List Fr)) : List (Key × P) := l.map fun z => (.inr z.1, .tup [rowP z.2.1, rowP z.2.2])
/-- the place of a name -/
def NetR.place (N : NetR) (x : Str) : Option (List Fr) := match N.pegs.lookup x with
  | some r => some r
  | none => (N.rings.lookup x).map (·.1)
/-- the drafts within the heap -/
structure DrAt (h : AH) (d : Nat) (N : NetR) : Prop where
  ex : ∃ (p r : Nat) (fs : List (Option P)), h[d]? = some (.ins "Drafts" fs) ∧ fs[0]? = some (some (.int N.coords)) ∧ fs[2]? = some (some (.obj p)) ∧ fs[3]? = some (some (.obj r)) ∧ h[p]? = some (.dct (pegK N.pegs)) ∧ h[r]? = some (.dct (ringK N.rings))
structure NetAt (h : AH) (n : Nat) (N : NetR) : Prop where
  ex : ∃ (d : Nat) (fs : List (Option P)), h[n]? = some (.ins "Net" fs) ∧ fs[0]? = some (some (.tup (N.cords.map pairP))) ∧ fs[1]? = some (some (.obj d)) ∧ fs[3]? = some (some (.str N.text)) ∧ DrAt h d N
theorem DrAt.app {h j : AH} {d : Nat} {N : NetR} (D : DrAt h d N) : DrAt (h ++ j) d N := by
  obtain ⟨p, r, fs, e1, e2, e3, e4, e5, e6⟩ := D.ex
  exact ⟨p, r, fs, get_app e1, e2, e3, e4, get_app e5, get_app e6⟩
theorem NetAt.app {h j : AH} {n : Nat} {N : NetR} (D : NetAt h n N) : NetAt (h ++ j) n N := by
  obtain ⟨d, fs, e1, e2, e3, e4, e5⟩ := D.ex
  exact ⟨d, fs, get_app e1, e2, e3, e4, e5.app⟩
section
variable {h : AH} {n : Nat} {N : NetR}
theorem p_text (D : NetAt h n N) : True := trivial
theorem p_cords (D : NetAt h n N) : m_Net_cords [.obj n] h = .ok (.tup (N.cords.map pairP)) h := by
  obtain ⟨d, fs, e1, e2, e3, e4, e5⟩ := D.ex
  refine fn_rt0 ?_
  unfold b_Net_cords
  rw [sR_at, eSlot_of (n := n) (by simp) e1 e2]
  rfl
theorem p_coords (D : NetAt h n N) : m_Net_coords [.obj n] h = .ok (.int N.coords) h := by
  obtain ⟨d, fs, e1, e2, e3, e4, e5⟩ := D.ex
  obtain ⟨p, r, gs, f1, f2, f3, f4, f5, f6⟩ := e5.ex
  refine fn_rt0 ?_
  unfold b_Net_coords
  rw [sR_at, eSlot_of (eSlot_of (n := n) (by simp) e1 e3) f1 f2]
  rfl
theorem keys_pegs (l : List (Str × List Fr)) : (pegK l).map (fun kv : Key × P => keyP kv.1) = (l.map (·.1)).map P.str := by
  unfold pegK
  rw [List.map_map, List.map_map]
  rfl
theorem keys_rings (l : List (Str × List Fr × List Fr)) : (ringK l).map (fun kv : Key × P => keyP kv.1) = (l.map (·.1)).map P.str := by
  unfold ringK
  rw [List.map_map, List.map_map]
  rfl
theorem p_pegs (D : NetAt h n N) : m_Net_pegs [.obj n] h = .ok (.tup (N.pegNames.map P.str)) h := by
  obtain ⟨d, fs, e1, e2, e3, e4, e5⟩ := D.ex
  obtain ⟨p, r, gs, f1, f2, f3, f4, f5, f6⟩ := e5.ex
  refine fn_rt0 ?_
  unfold b_Net_pegs
  rw [sR_at, eCB_at, lC_at, eSlot_of (eSlot_of (n := n) (by simp) e1 e3) f1 f3]
  unfold NetR.pegNames
  rw [← keys_pegs]
  simp [tup_dct f5]
theorem p_rings (D : NetAt h n N) : m_Net_rings [.obj n] h = .ok (.tup (N.ringNames.map P.str)) h := by
  obtain ⟨d, fs, e1, e2, e3, e4, e5⟩ := D.ex
  obtain ⟨p, r, gs, f1, f2, f3, f4, f5, f6⟩ := e5.ex
  refine fn_rt0 ?_
  unfold b_Net_rings
  rw [sR_at, eCB_at, lC_at, eSlot_of (eSlot_of (n := n) (by simp) e1 e3) f1 f4]
  unfold NetR.ringNames
  rw [← keys_rings]
  simp [tupD_dct f6, tup_dct f6]
/-- a property of the net in a slot -/
theorem prop_at {m : Fn} {i : Nat} {t : AM.Loc} {p : P} (D : NetAt h n N) (e : t[i]? = some (some (.obj n))) (e2 : m [.obj n] h = .ok p h) : eProp "Net" m (eV i) t h = .ok p h := by
  obtain ⟨d, fs, e1, _⟩ := D.ex
  exact eProp_of (eV_some e) e1 e2
theorem p_check_name (D : NetAt h n N) {x : Str} (hx : x ∈ N.names) (l : N.names.length ≤ 1000) : m_check_name [.obj n, .str x] h = .ok .non h := by
  refine fn_nx0 (t := [some (.obj n), some (.str x)]) ?_
  unfold b_check_name
  have e1 := prop_at (i := 0) (t := [some (.obj n), some (.str x)]) D rfl (p_pegs D)
  have e2 := prop_at (i := 0) (t := [some (.obj n), some (.str x)]) D rfl (p_rings D)
  have e3 : m_is_string [.str x, .tup (N.names.map P.str)] h = .ok (.bl true) h := by
    refine fn_rt0 ?_
    unfold b_is_string
    simp [tyB, cmp_in_strs, hx]
  unfold NetR.names at e3 l
  rw [List.map_append] at e3
  rw [List.length_append] at l
  have l3 : small (N.pegNames.length + N.ringNames.length) = true := small_true (by omega)
  simp [e1, e2, l3, e3]
theorem p_place {d : Nat} (D : DrAt h d N) {x : Str} {r : List Fr} (e : N.place x = some r) : m_Drafts_place [.obj d, .str x] h = .ok (rowP r) h := by
  obtain ⟨p, q, gs, f1, f2, f3, f4, f5, f6⟩ := D.ex
  refine fn_rt0 ?_
  unfold b_Drafts_place
  have s1 : eSlot "Drafts" 2 (eV 0) [some (.obj d), some (.str x)] h = .ok (.obj p) h := eSlot_of (eV_some rfl) f1 f3
  have s2 : eSlot "Drafts" 3 (eV 0) [some (.obj d), some (.str x)] h = .ok (.obj q) h := eSlot_of (eV_some rfl) f1 f4
  have g1 : getP (pegK N.pegs) (.inr x) = (N.pegs.lookup x).map rowP := getP_map _ _ _
  have g2 : getP (ringK N.rings) (.inr x) = (N.rings.lookup x).map fun z => .tup [rowP z.1, rowP z.2] := getP_map (fun z : List Fr × List Fr => P.tup [rowP z.1, rowP z.2]) _ _
  unfold NetR.place at e
  cases c : N.pegs.lookup x with
  | some r1 =>
    rw [c] at e g1
    have e : r1 = r := Option.some.inj e
    subst e
    simp [s1, cmp_in_dct f5, g1, item_dct f5 g1]
  | none =>
    rw [c] at e g1
    cases c2 : N.rings.lookup x with
    | none => rw [c2] at e; cases e
    | some z =>
      rw [c2] at e g2
      have e : z.1 = r := Option.some.inj e
      subst e
      simp [s1, s2, cmp_in_dct f5, g1, item_dct f6 g2]
end
end
end K14


/-! placements -/
namespace K14
open PySem PySem.Spec PyProof.Rows L2 AM
noncomputable section
structure NetOk (N : NetR) : Prop where
  c1 : 1 ≤ N.coords
  c3 : N.coords ≤ 3
  nd : N.names.Nodup
  np : N.pegs.length ≤ 16
  nr : N.rings.length ≤ 8
  nc : N.cords.length ≤ 20
  peg : ∀ z ∈ N.pegs, RowOk 10 z.2 ∧ z.2.length = N.coords
  ring : ∀ z ∈ N.rings, (RowOk 10 z.2.1 ∧ z.2.1.length = N.coords) ∧ RowOk 10 z.2.2 ∧ z.2.2.length = N.coords
  cord : ∀ c ∈ N.cords, c.1 ∈ N.names ∧ c.2 ∈ N.names
def NetR.placeD (N : NetR) (x : Str) : List Fr := (N.place x).getD []
def NetR.weightD (N : NetR) (x : Str) : List Fr := match N.rings.lookup x with
  | some z => z.2
  | none => List.replicate N.coords (0, 1)
theorem lookup_some {α : Type} {x : Str} : ∀ {l : List (Str × α)}, x ∈ l.map (·.1) → ∃ a, l.lookup x = some a ∧ (x, a) ∈ l
  | [], h => by simp at h
  | (y, a) :: l, h => by
    rw [List.lookup_cons]
    by_cases e : x = y
    · subst e
      refine ⟨a, ?_, List.mem_cons_self ..⟩
      rw [beq_self_eq_true]
    · have e2 : (x == y) = false := beq_eq_false_iff_ne.mpr e
      rw [e2]
      have h2 : x ∈ l.map (·.1) := by
        rcases List.mem_cons.mp h with z | z
        · exact absurd z e
        · exact z
      obtain ⟨b, h3, h4⟩ := lookup_some h2
      exact ⟨b, h3, List.mem_cons_of_mem _ h4⟩
theorem lookup_none {α : Type} {x : Str} : ∀ {l : List (Str × α)}, x ∉ l.map (·.1) → l.lookup x = none
  | [], _ => rfl
  | (y, a) :: l, h => by
    rw [List.lookup_cons]
    have e2 : (x == y) = false := beq_eq_false_iff_ne.mpr fun e => h (by rw [e]; exact List.mem_cons_self ..)
    rw [e2]
    exact lookup_none fun z => h (List.mem_cons_of_mem _ z)
section
variable {h : AH} {n : Nat} {N : NetR}
theorem NetOk.few (V : NetOk N) : N.names.length ≤ 1000 := by
  unfold NetR.names NetR.pegNames NetR.ringNames
  rw [List.length_append, List.length_map, List.length_map]
  have := V.np
  have := V.nr
  omega
theorem NetOk.place (V : NetOk N) {x : Str} (hx : x ∈ N.names) : N.place x = some (N.placeD x) ∧ RowOk 10 (N.placeD x) ∧ (N.placeD x).length = N.coords := by
  have main : ∃ r, N.place x = some r ∧ RowOk 10 r ∧ r.length = N.coords := by
    unfold NetR.place
    unfold NetR.names NetR.pegNames NetR.ringNames at hx
    by_cases hp : x ∈ N.pegs.map (·.1)
    · obtain ⟨r, e1, e2⟩ := lookup_some hp
      rw [e1]
      exact ⟨r, rfl, (V.peg _ e2).1, (V.peg _ e2).2⟩
    · rw [lookup_none hp]
      obtain ⟨z, e1, e2⟩ := lookup_some ((List.mem_append.mp hx).resolve_left hp)
      rw [e1]
      exact ⟨z.1, rfl, (V.ring _ e2).1.1, (V.ring _ e2).1.2⟩
  obtain ⟨r, e, a, b⟩ := main
  unfold NetR.placeD
  rw [e]
  exact ⟨rfl, a, b⟩
theorem way_of (D : NetAt h n N) (V : NetOk N) {k : Nat} {c : Str × Str} (e : N.cords[k]? = some c) : m_way_of [.obj n, .int (k : Nat)] h = .ok (rowP (rowLess (N.placeD c.2) (N.placeD c.1))) h := by
  have hc := V.cord c (List.mem_of_getElem? e)
  have pc := p_cords D
  obtain ⟨d, fs, e1, e2, e3, e4, e5⟩ := D.ex
  obtain ⟨p, q, gs, f1, _⟩ := e5.ex
  refine fn_rt0 ?_
  unfold b_way_of
  have s0 := prop_at (i := 0) (t := [some (.obj n), some (.int (k : Nat)), none, none]) D rfl pc
  have ix : atI (N.cords.map pairP) (k : Int) = some (pairP c) := by rw [AM.atI_nat, List.getElem?_map, e]; rfl
  have s1 : ∀ a b, eMeth "Drafts" 2 m_Drafts_place (eSlot "Net" 1 (eV 0)) (lC (eV 2) lN) [some (.obj n), some (.int (k : Nat)), some (.str a), some (.str b)] h = m_Drafts_place [.obj d, .str a] h := fun a b => eMeth_of (eSlot_of (eV_some rfl) e1 e3) f1 (by simp) rfl
  have s2 : ∀ a b, eMeth "Drafts" 2 m_Drafts_place (eSlot "Net" 1 (eV 0)) (lC (eV 3) lN) [some (.obj n), some (.int (k : Nat)), some (.str a), some (.str b)] h = m_Drafts_place [.obj d, .str b] h := fun a b => eMeth_of (eSlot_of (eV_some rfl) e1 e3) f1 (by simp) rfl
  obtain ⟨p1, r1, l1⟩ := V.place hc.1
  obtain ⟨p2, r2, l2⟩ := V.place hc.2
  have c3 := V.c3
  simp [s0, ix, pairP, s1, s2, p_place e5 p1, p_place e5 p2, p_row_less h r2 r1 (by omega) (by omega)]
def NetR.wayD (N : NetR) (c : Str × Str) : List Fr := rowLess (N.placeD c.2) (N.placeD c.1)
def NetR.sqD (N : NetR) (c : Str × Str) : Fr := rowSq (N.wayD c)
theorem rowLess_len (r s : List Fr) : (rowLess r s).length = min r.length s.length := by
  unfold rowLess zipF
  rw [List.length_map, List.length_zip]
theorem way_ok (V : NetOk N) {c : Str × Str} (hc : c ∈ N.cords) : RowOk 21 (N.wayD c) ∧ (N.wayD c).length = N.coords := by
  obtain ⟨h1, h2⟩ := V.cord c hc
  obtain ⟨_, r1, l1⟩ := V.place h1
  obtain ⟨_, r2, l2⟩ := V.place h2
  refine ⟨r2.less r1, ?_⟩
  unfold NetR.wayD
  rw [rowLess_len, l1, l2]
  omega
theorem sq_ok (V : NetOk N) {c : Str × Str} (hc : c ∈ N.cords) : FrOk 130 (N.sqD c) := by
  obtain ⟨r, l⟩ := way_ok V hc
  refine (rowProd_ok r r).mono ?_
  rw [l]
  have := V.c3
  have : N.coords * (21 + 21 + 1) ≤ 3 * (21 + 21 + 1) := Nat.mul_le_mul_right _ this
  omega
/-- the numbers of the cords at a name -/
def NetR.cordsAt (N : NetR) (x : Str) : List Nat := (enumF 0 N.cords).filterMap fun z => if x = z.2.1 ∨ x = z.2.2 then some z.1 else none
theorem cmp_in_pair (x a b : Str) (h : AH) : cmpV inP (.str x) (.tup [.str a, .str b]) h = .ok (decide (x = a ∨ x = b)) h := by
  have z := cmp_in_strs x [a, b] h
  rw [show ([a, b].map P.str) = [.str a, .str b] from rfl] at z
  rw [z]
  simp
theorem cords_at (D : NetAt h n N) (V : NetOk N) {x : Str} (hx : x ∈ N.names) : m_cords_at [.obj n, .str x] h = .ok (.tup ((N.cordsAt x).map fun k => .int (k : Nat))) h := by
  refine fn_rt0 ?_
  unfold b_cords_at
  have s0 := prop_at (i := 0) (t := [some (.obj n), some (.str x), none, none]) D rfl (p_cords D)
  have nc := V.nc
  have e := lc_run (S := ⟨(enumF 0 N.cords).map fun z => .tup [.int (z.1 : Nat), pairP z.2], []⟩) (h := h) (g := gT 2 (gsC (gN 2) (gsC (gN 3) gsN))) (c := tCp inP (eV 1) (eV 3)) (e := eV 2) (t := [some (.obj n), some (.str x), none, none])
    (fun z : Nat × Str × Str => .tup [.int (z.1 : Nat), pairP z.2]) (fun z => if x = z.2.1 ∨ x = z.2.2 then some (.int (z.1 : Nat)) else none) (fun acc => (still_none _ _ _).mpr trivial) (ys := enumF 0 N.cords) (acc := [])
    (fun z hz acc => by
      refine ⟨_, by simp; rfl, ?_⟩
      by_cases hc : x = z.2.1 ∨ x = z.2.2
      · rw [if_pos hc]
        exact ⟨[], [], by simp [pairP, cmp_in_pair, hc], by simp, rfl⟩
      · rw [if_neg hc]
        exact ⟨[], by simp [pairP, cmp_in_pair, hc]⟩) (by rw [enumF_len]; simp; omega)
  simp [p_check_name D hx V.few, s0, eLc_at, enumP_map, e]
  unfold NetR.cordsAt
  rw [List.map_filterMap]
  congr 1
  funext z
  split <;> rfl
end
end
end K14


/-! placements: spots, slacks -/
namespace K14
open PySem PySem.Spec PyProof.Rows L2 AM
noncomputable section
def ledD (r : List Fr) (m : Nat) : List Fr := r ++ List.replicate (m - r.length) (0, 1)
def widthD (N : NetR) : List (List Fr) → Nat
  | [] => N.coords
  | r :: _ => r.length
/-- rows as many as rings, of one length, of b bits -/
structure PlOk (N : NetR) (b w : Nat) (pl : List (List Fr)) : Prop where
  len : pl.length = N.rings.length
  row : ∀ r ∈ pl, RowOk b r ∧ r.length = w
  emp : pl = [] → w = N.coords
  lo : N.coords ≤ w
  hi : w ≤ 12
  b1 : 10 ≤ b
  b2 : b ≤ 60
def NetR.spotD (N : NetR) (pl : List (List Fr)) (x : Str) : List Fr := if x ∈ N.ringNames then pl.getD (N.ringNames.idxOf x) [] else ledD (N.placeD x) (widthD N pl)
def NetR.apartD (N : NetR) (pl : List (List Fr)) (x y : Str) : Fr := rowSq (rowLess (N.spotD pl x) (N.spotD pl y))
def NetR.looseD (N : NetR) (pl : List (List Fr)) : List Fr := N.cords.map fun c => lessF (N.sqD c) (N.apartD pl c.1 c.2)
section
variable {h : AH} {n : Nat} {N : NetR} {b w : Nat} {pl : List (List Fr)}
theorem PlOk.width (Q : PlOk N b w pl) : widthD N pl = w := by
  cases pl with
  | nil => exact (Q.emp rfl).symm
  | cons r pl => exact (Q.row r (List.mem_cons_self ..)).2
theorem led_ok {r : List Fr} {m : Nat} (hr : RowOk b r) (hb : 10 ≤ b) : RowOk b (ledD r m) := by
  intro x hx
  rcases List.mem_append.mp hx with z | z
  · exact hr x z
  · rw [(List.mem_replicate.mp z).2]
    exact nought_ok.mono (by omega)
theorem led_len {r : List Fr} {m : Nat} (l : r.length ≤ m) : (ledD r m).length = m := by
  unfold ledD
  rw [List.length_append, List.length_replicate]
  omega
end
end
end K14


/-! placements: what they are -/
namespace K14
open PySem PySem.Spec PyProof.Rows L2 AM
noncomputable section
section
variable {h : AH} {n : Nat} {N : NetR} {b w : Nat} {pl : List (List Fr)}
theorem spot_ok (V : NetOk N) (Q : PlOk N b w pl) {x : Str} (hx : x ∈ N.names) : RowOk b (N.spotD pl x) ∧ (N.spotD pl x).length = w := by
  unfold NetR.spotD
  obtain ⟨p1, r1, l1⟩ := V.place hx
  split
  · rename_i hr
    have lt : N.ringNames.idxOf x < pl.length := by
      rw [Q.len]
      have := List.idxOf_lt_length_of_mem hr
      unfold NetR.ringNames at this
      rw [List.length_map] at this
      exact this
    rw [List.getD_eq_getElem?_getD, List.getElem?_eq_getElem lt]
    exact Q.row _ (List.getElem_mem lt)
  · rw [Q.width]
    exact ⟨led_ok (r1.mono Q.b1) Q.b1, led_len (by rw [l1]; exact Q.lo)⟩
theorem apart_bits (V : NetOk N) (Q : PlOk N b w pl) {x y : Str} (hx : x ∈ N.names) (hy : y ∈ N.names) : FrOk 3000 (N.apartD pl x y) := by
  obtain ⟨r1, l1⟩ := spot_ok V Q hx
  obtain ⟨r2, l2⟩ := spot_ok V Q hy
  have b2 := Q.b2
  have r := (r1.mono b2).less (r2.mono b2)
  refine (rowProd_ok r r).mono ?_
  rw [rowLess_len, l1, l2, Nat.min_self]
  have : w * (60 + 60 + 1 + (60 + 60 + 1) + 1) ≤ 12 * (60 + 60 + 1 + (60 + 60 + 1) + 1) := Nat.mul_le_mul_right _ Q.hi
  omega
theorem loose_bits (V : NetOk N) (Q : PlOk N b w pl) : ∀ x ∈ N.looseD pl, FrOk 4000 x := by
  intro x hx
  obtain ⟨c, hc, rfl⟩ := List.mem_map.mp hx
  obtain ⟨h1, h2⟩ := V.cord c hc
  exact ((sq_ok V hc).less (apart_bits V Q h1 h2)).mono (by omega)
theorem enumF_map {α β : Type} (f : α → β) : ∀ (xs : List α) (k : Nat), (enumF k xs).map (fun z => f z.2) = xs.map f
  | [], _ => rfl
  | x :: xs, k => by
    show f x :: (enumF (k + 1) xs).map _ = f x :: xs.map f
    rw [enumF_map f xs (k + 1)]
theorem row_P (r : List Fr) : rowP r = .tup (r.map ratP) := rfl
end
end
end K14


/-! what is told of placements -/
namespace K14
open PySem PySem.Spec PyProof.Rows L2 AM
noncomputable section
def NetR.fits (N : NetR) (pl : List (List Fr)) : Bool := !(N.looseD pl).any fun x => belowF x (0, 1)
def NetR.picD (N : NetR) : List (List Fr) := N.ringNames.map N.placeD
def NetR.scoreD (N : NetR) (pl : List (List Fr)) : Fr := totalF ((N.ringNames.zip pl).map fun z => rowProd (N.weightD z.1) z.2)
def mixD (N : NetR) (one other : List (List Fr)) (share : Fr) : List (List Fr) :=
  (one.zip other).map fun z => rowPlus (rowTimes (ledD z.1 (max (widthD N one) (widthD N other))) (lessF (1, 1) share)) (rowTimes (ledD z.2 (max (widthD N one) (widthD N other))) share)
def movedD (N : NetR) (moves : List (List Fr)) (step : Fr) : List (List Fr) := (N.picD.zip moves).map fun z => rowPlus z.1 (rowTimes z.2 step)
section
variable {h : AH} {n : Nat} {N : NetR} {b w : Nat} {pl : List (List Fr)}
theorem weight_ring (D : NetAt h n N) (V : NetOk N) {x : Str} (hx : x ∈ N.ringNames) : m_weight_of [.obj n, .str x] h = .ok (rowP (N.weightD x)) h ∧ RowOk 10 (N.weightD x) ∧ (N.weightD x).length = N.coords := by
  have hn : x ∈ N.names := List.mem_append_right _ hx
  have c := p_check_name D hn V.few
  have s0 := prop_at (i := 0) (t := [some (.obj n), some (.str x)]) D rfl (p_rings D)
  obtain ⟨z, lk, hz⟩ := lookup_some hx
  have wd : N.weightD x = z.2 := by
    unfold NetR.weightD
    rw [lk]
  obtain ⟨_, r2, l2⟩ := V.ring _ hz
  rw [wd]
  refine ⟨?_, r2, l2⟩
  obtain ⟨d, fs, e1, e2, e3, e4, e5⟩ := D.ex
  obtain ⟨p, q, gs, f1, f2, f3, f4, f5, f6⟩ := e5.ex
  refine fn_rt0 ?_
  unfold b_weight_of
  have s1 : eSlot "Drafts" 3 (eSlot "Net" 1 (eV 0)) [some (.obj n), some (.str x)] h = .ok (.obj q) h := eSlot_of (eSlot_of (eV_some rfl) e1 e3) f1 f4
  have g2 : getP (ringK N.rings) (.inr x) = some (.tup [rowP z.1, rowP z.2]) := by
    have y := getP_map (fun z : List Fr × List Fr => P.tup [rowP z.1, rowP z.2]) x N.rings
    rw [lk] at y
    exact y
  simp [c, s0, cmp_in_strs, hx, s1, item_dct f6 g2]
end
end
end K14


/-! moves, weights -/
namespace K14
open PySem PySem.Spec PyProof.Rows L2 AM
noncomputable section
section
variable {h : AH} {n : Nat} {N : NetR} {b w : Nat} {pl : List (List Fr)}
theorem mul_row {c : Bool} (k : Nat) (h : AH) (l : k ≤ 1000) : vMulA c (.tup [.tup [.int 0, .int 1]]) (.int (k : Nat)) h = .ok (rowP (List.replicate k (0, 1))) h := by
  have fl : ∀ k : Nat, (List.replicate k [P.tup [.int 0, .int 1]]).flatten = (List.replicate k ((0, 1) : Fr)).map ratP := fun k => by
    induction k with
    | zero => rfl
    | succ k ih =>
      rw [List.replicate_succ, List.flatten_cons, ih, List.replicate_succ, List.map_cons]
      rfl
  unfold rowP
  rw [← fl]
  by_cases k2 : 2 ≤ k
  · have z : vMul (.tup [.tup [.int 0, .int 1]]) (.int (k : Nat)) h = .ok (.tup (List.replicate k [P.tup [.int 0, .int 1]]).flatten) h := by
      show (if [P.tup [.int 0, .int 1]].isEmpty = false ∧ 2 ≤ (k : Int) ∧ (k : Int) ≤ 1000 ∧ [P.tup [.int 0, .int 1]].length ≤ 1000 then Out.ok (P.tup (List.replicate (k : Int).toNat [P.tup [.int 0, .int 1]]).flatten) h else .bad) = _
      rw [if_pos ⟨rfl, by omega, by omega, by decide⟩]
      rfl
    unfold vMulA orF2
    simp only [z]
  · have c : k = 0 ∨ k = 1 := by omega
    rcases c with rfl | rfl
    · rfl
    · rfl
theorem weight_peg (D : NetAt h n N) (V : NetOk N) {x : Str} (hx : x ∈ N.names) (nr : x ∉ N.ringNames) : m_weight_of [.obj n, .str x] h = .ok (rowP (N.weightD x)) h := by
  have c := p_check_name D hx V.few
  have s0 := prop_at (i := 0) (t := [some (.obj n), some (.str x)]) D rfl (p_rings D)
  have s1 := prop_at (i := 0) (t := [some (.obj n), some (.str x)]) D rfl (p_coords D)
  have c3 := V.c3
  have wd : N.weightD x = List.replicate N.coords (0, 1) := by
    unfold NetR.weightD
    unfold NetR.ringNames at nr
    rw [lookup_none nr]
  rw [wd]
  refine fn_rt0 ?_
  unfold b_weight_of
  simp [c, s0, cmp_in_strs, nr, s1, mul_row N.coords h (by omega)]
end
end
end K14


/-! drafts that grow -/
namespace K14
open PySem PySem.Spec PyProof.Rows L2 AM
noncomputable section
def nameOk (x : Str) : Bool := decide (1 ≤ (x.length : Int)) && decide ((x.length : Int) ≤ 6) && (x.cps.toList.map fun c => inStr ⟨#[c]⟩ "abcdefghijklmnopqrstuvwxyz").all id
theorem p_is_name {x : Str} (h : AH) (o : nameOk x = true) : m_is_name [.str x] h = .ok (.bl true) h := by
  unfold nameOk at o
  simp only [Bool.and_eq_true] at o
  obtain ⟨⟨o1, o2⟩, o3⟩ := o
  have l : x.length ≤ 16777216 := by have := of_decide_eq_true o2; omega
  have e : ∀ t, t = [some (.str x), none] → lcF ⟨x.cps.toList.map fun c => P.str ⟨#[c]⟩, []⟩ h (gN 1) tY (eCmp inP (eV 1) (eC (.str "abcdefghijklmnopqrstuvwxyz"))) t (x.cps.toList.map fun c => P.str ⟨#[c]⟩) [] h = .ok (.lst (x.cps.toList.map fun c => .bl (inStr ⟨#[c]⟩ "abcdefghijklmnopqrstuvwxyz"))) h := by
    rintro t rfl
    refine lc_map0 _ _ l fun c hc hh => ⟨_, rfl, by simp, rfl⟩
  have e3 := f_all (x.cps.toList.map fun c => inStr ⟨#[c]⟩ "abcdefghijklmnopqrstuvwxyz") h
  rw [List.map_map] at e3
  simp only [Function.comp_def] at e3
  refine fn_rt0 ?_
  unfold b_is_name
  simp only [sR_at, eAn_at, eIsi_at, eCh_at, tCh_at, eCB_at, lC_at, lN_at, eC_at, eLc_at, iSeq_at]
  simp [tyB, len_str l, eLc_at, e, e3, o1, of_decide_eq_true o1, of_decide_eq_true o2]
  simpa using o3
/-- drafts under way -/
structure DrS (h : AH) (d p r c : Nat) (k : Nat) (pegs : List (Str × List Fr)) (rings : List (Str × List Fr × List Fr)) (cords : List (Str × Str)) : Prop where
  ins : h[d]? = some (.ins "Drafts" [some (.int k), some (.obj c), some (.obj p), some (.obj r)])
  hp : h[p]? = some (.dct (pegK pegs))
  hr : h[r]? = some (.dct (ringK rings))
  hc : h[c]? = some (.lst (cords.map pairP))
  ne : p ≠ r
theorem DrS.app {h j : AH} {d p r c k : Nat} {pegs rings cords} (D : DrS h d p r c k pegs rings cords) : DrS (h ++ j) d p r c k pegs rings cords := ⟨get_app D.ins, get_app D.hp, get_app D.hr, get_app D.hc, D.ne⟩
theorem get_set {h : AH} {n m : Nat} {o a b : O} (e : h[n]? = some a) (f : h[m]? = some b) (ne : m = n → False) : (h.set m o)[n]? = some a := by
  rw [List.getElem?_set_ne ne]
  exact e
theorem set_get {h : AH} {m : Nat} {o b : O} (f : h[m]? = some b) : (h.set m o)[m]? = some o := by
  rw [List.getElem?_set_self (List.getElem?_eq_some_iff.mp f).1]
section
variable {h : AH} {d p r c k : Nat} {pegs : List (Str × List Fr)} {rings : List (Str × List Fr × List Fr)} {cords : List (Str × Str)}
theorem DrS.withPegs (D : DrS h d p r c k pegs rings cords) (pegs' : List (Str × List Fr)) : DrS (h.set p (.dct (pegK pegs'))) d p r c k pegs' rings cords :=
  ⟨get_set D.ins D.hp (fun e => by subst e; have z := D.ins.symm.trans D.hp; cases z), set_get D.hp, get_set D.hr D.hp D.ne, get_set D.hc D.hp (fun e => by subst e; have z := D.hc.symm.trans D.hp; cases z), D.ne⟩
theorem DrS.withRings (D : DrS h d p r c k pegs rings cords) (rings' : List (Str × List Fr × List Fr)) : DrS (h.set r (.dct (ringK rings'))) d p r c k pegs rings' cords :=
  ⟨get_set D.ins D.hr (fun e => by subst e; have z := D.ins.symm.trans D.hr; cases z), get_set D.hp D.hr (Ne.symm D.ne), set_get D.hr, get_set D.hc D.hr (fun e => by subst e; have z := D.hc.symm.trans D.hr; cases z), D.ne⟩
theorem DrS.withCords (D : DrS h d p r c k pegs rings cords) (cords' : List (Str × Str)) : DrS (h.set c (.lst (cords'.map pairP))) d p r c k pegs rings cords' :=
  ⟨get_set D.ins D.hc (fun e => by subst e; have z := D.ins.symm.trans D.hc; cases z), get_set D.hp D.hc (fun e => by subst e; have z := D.hp.symm.trans D.hc; cases z), get_set D.hr D.hc (fun e => by subst e; have z := D.hr.symm.trans D.hc; cases z), set_get D.hc, D.ne⟩
theorem DrS.dr (D : DrS h d p r c k pegs rings cords) (t : Str) : DrAt h d ⟨t, k, pegs, rings, cords⟩ := ⟨p, r, _, D.ins, rfl, rfl, rfl, D.hp, D.hr⟩
theorem get_pegs (x : Str) (l : List (Str × List Fr)) : getP (pegK l) (.inr x) = (l.lookup x).map rowP := getP_map rowP x l
theorem get_rings (x : Str) (l : List (Str × List Fr × List Fr)) : getP (ringK l) (.inr x) = (l.lookup x).map fun z => .tup [rowP z.1, rowP z.2] := getP_map (fun z : List Fr × List Fr => P.tup [rowP z.1, rowP z.2]) x l
theorem p_is_new (D : DrS h d p r c k pegs rings cords) {x : Str} (o : nameOk x = true) (np : x ∉ pegs.map (·.1)) (nr : x ∉ rings.map (·.1)) : m_Drafts_is_new [.obj d, .str x] h = .ok (.bl true) h := by
  refine fn_rt0 ?_
  unfold b_Drafts_is_new
  have s2 : eSlot "Drafts" 2 (eV 0) [some (.obj d), some (.str x)] h = .ok (.obj p) h := eSlot_of (eV_some rfl) D.ins rfl
  have s3 : eSlot "Drafts" 3 (eV 0) [some (.obj d), some (.str x)] h = .ok (.obj r) h := eSlot_of (eV_some rfl) D.ins rfl
  have g2 : getP (pegK pegs) (.inr x) = none := by rw [get_pegs, lookup_none np]; rfl
  have g3 : getP (ringK rings) (.inr x) = none := by rw [get_rings, lookup_none nr]; rfl
  have i2 := notin_of (cmp_in_dct (x := x) D.hp)
  have i3 := notin_of (cmp_in_dct (x := x) D.hr)
  rw [g2] at i2
  rw [g3] at i3
  simp [p_is_name h o, s2, s3, i2, i3]
theorem clean_pegs (n : Nat) (l : List (Str × List Fr)) : cleanO n (.dct (pegK l)) = true := by
  show cleans n ((pegK l).map (·.2)) = true
  refine cleans_all fun q hq => ?_
  obtain ⟨z, hz, rfl⟩ := List.mem_map.mp hq
  obtain ⟨w, _, rfl⟩ := List.mem_map.mp hz
  exact clean_row _ _
theorem clean_rings (n : Nat) (l : List (Str × List Fr × List Fr)) : cleanO n (.dct (ringK l)) = true := by
  show cleans n ((ringK l).map (·.2)) = true
  refine cleans_all fun q hq => ?_
  obtain ⟨z, hz, rfl⟩ := List.mem_map.mp hq
  obtain ⟨w, _, rfl⟩ := List.mem_map.mp hz
  show (clean n (rowP w.2.1) && (clean n (rowP w.2.2) && true)) = true
  rw [clean_row, clean_row]
  rfl
theorem clean_cords (n : Nat) (l : List (Str × Str)) : cleanO n (.lst (l.map pairP)) = true := by
  show cleans n (l.map pairP) = true
  refine cleans_all fun q hq => ?_
  obtain ⟨z, hz, rfl⟩ := List.mem_map.mp hq
  rfl
theorem p_put_peg (D : DrS h d p r c k pegs [] []) {x : Str} {ws : List Str} {xs : List Fr} (o : nameOk x = true) (np : x ∉ pegs.map (·.1)) (hw : WordsAre ws xs) (hx : ∀ x ∈ xs, NumOk x) (lw : ws.length = k) (l3 : k ≤ 3) (l16 : pegs.length < 16) :
    m_Drafts_put_peg [.obj d, .lst (.str "peg" :: .str x :: ws.map P.str)] h = .ok (.bl true) (h.set p (.dct (pegK (pegs ++ [(x, xs)])))) := by
  refine fn_set (j := [.dct []]) ?_ (clean_pegs _ _) rfl
  unfold b_Drafts_put_peg
  have D1 : DrS (h ++ [.dct []]) d p r c k pegs [] [] := D.app
  have cut : cutP (P.str "peg" :: .str x :: ws.map P.str) (some 2) none = ws.map P.str := by
    have z := cutP_from (P.str "peg" :: .str x :: ws.map P.str) 2
    exact z
  have s0 : ∀ a b, eSlot "Drafts" 0 (eV 0) [some (.obj d), a, b] h = .ok (.int k) h := fun a b => eSlot_of (eV_some rfl) D.ins rfl
  have s3 : ∀ a b, eSlot "Drafts" 3 (eV 0) [some (.obj d), a, b] h = .ok (.obj r) h := fun a b => eSlot_of (eV_some rfl) D.ins rfl
  have s1 : ∀ a b, eSlot "Drafts" 1 (eV 0) [some (.obj d), a, b] (h ++ [.dct []]) = .ok (.obj c) (h ++ [.dct []]) := fun a b => eSlot_of (eV_some rfl) D1.ins rfl
  have s2 : ∀ a b, eSlot "Drafts" 2 (eV 0) [some (.obj d), a, b] (h ++ [.dct []]) = .ok (.obj p) (h ++ [.dct []]) := fun a b => eSlot_of (eV_some rfl) D1.ins rfl
  have ni := p_numbers_in h hw hx (by omega)
  rw [lw] at ni
  have mt : ∀ b, eMeth "Drafts" 2 m_Drafts_is_new (eV 0) (lC (eB itemP (eV 1) (eC (.int 1))) lN) [some (.obj d), some (.lst (.str "peg" :: .str x :: ws.map P.str)), b] h = .ok (.bl true) h := fun b =>
    (eMeth_of (n := d) (xs := [.str x]) (h1 := h) (h2 := h) (eV_some rfl) D.ins (by simp) rfl).trans (p_is_new D o np (by simp))
  have c0 : cmpV (eqD0 true) (.obj r) (.obj h.length) (h ++ [.dct []]) = .ok false (h ++ [.dct []]) := by
    rw [cmp_D0 D1.hr (by simp)]
    rfl
  have c1 := cmp_L0 D1.hc
  have g2 : getP (pegK pegs) (.inr x) = none := by rw [get_pegs, lookup_none np]; rfl
  have lp : (pegK pegs).length = pegs.length := by unfold pegK; rw [List.length_map]
  have st := put_dct (p := rowP xs) D1.hp g2 (by omega)
  have pk : pegK pegs ++ [(.inr x, rowP xs)] = pegK (pegs ++ [(x, xs)]) := by unfold pegK; rw [List.map_append]; rfl
  rw [pk, List.set_append_left _ _ (List.getElem?_eq_some_iff.mp D.hp).1] at st
  have D2 : DrS (h.set p (.dct (pegK (pegs ++ [(x, xs)]))) ++ [.dct []]) d p r c k (pegs ++ [(x, xs)]) [] [] := (D.withPegs _).app
  have s4 : ∀ a b, eSlot "Drafts" 2 (eV 0) [some (.obj d), a, b] (h.set p (.dct (pegK (pegs ++ [(x, xs)]))) ++ [.dct []]) = .ok (.obj p) (h.set p (.dct (pegK (pegs ++ [(x, xs)]))) ++ [.dct []]) := fun a b => eSlot_of (eV_some rfl) D2.ins rfl
  have ln := len_dct D2.hp
  have lq : (pegK (pegs ++ [(x, xs)])).length = pegs.length + 1 := by unfold pegK; rw [List.length_map, List.length_append]; rfl
  rw [lq] at ln
  have lf : ((pegs.length : Int) + 1 ≤ 16) := by omega
  simp [s0, s3, s1, s2, s4, cut, ni, rowP] 
  simp [rowP] at st
  simp [mt, s3, c0, c1, s1, s2, st, s4, ln, lf]
end
end
end K14


/-! drafts that grow, on -/
namespace K14
open PySem PySem.Spec PyProof.Rows L2 AM
noncomputable section
theorem eqv_rat (x y : Fr) : PyData.eqv (ratD x) (ratD y) = decide (x = y) := by
  obtain ⟨a, b⟩ := x
  obtain ⟨c, d⟩ := y
  show ((a == c) && ((b == d) && true)) = _
  by_cases e : a = c
  · by_cases f : b = d
    · subst e f
      simp
    · simp [e, f]
  · simp [e]
theorem eqv_map {α : Type} [DecidableEq α] (f : α → PyData) (e : ∀ x y, PyData.eqv (f x) (f y) = decide (x = y)) : ∀ (xs ys : List α), PyData.eqvAll (xs.map f) (ys.map f) = decide (xs = ys)
  | [], [] => rfl
  | [], y :: ys => by simp [PyData.eqvAll]
  | x :: xs, [] => by simp [PyData.eqvAll]
  | x :: xs, y :: ys => by
    rw [List.map_cons, List.map_cons]
    unfold PyData.eqvAll
    rw [e, eqv_map f e xs ys]
    by_cases a : x = y
    · by_cases b : xs = ys
      · simp [a, b]
      · simp [b]
    · simp [a]
theorem eqv_row (r s : List Fr) : PyData.eqv (rowD r) (rowD s) = decide (r = s) := by
  unfold rowD PyData.eqv
  exact eqv_map ratD eqv_rat r s
theorem cmp_rows (r s : List Fr) (h : AH) : cmpV eqP (rowP r) (rowP s) h = .ok (decide (r = s)) h := by
  rw [eq_dat (dat_row _ r) (dat_row _ s) (shaped_row r) (shaped_row s) (fun x z => by cases z), eqv_row]
def pairD (c : Str × Str) : PyData := .tuple [.str c.1, .str c.2]
theorem eqv_pair (x y : Str × Str) : PyData.eqv (pairD x) (pairD y) = decide (x = y) := pair_eqv x.1 x.2 y.1 y.2
def strsOk (c : Str × Str) : Bool := PyData.strOk c.1 && PyData.strOk c.2
theorem lay_pair (c : Str × Str) (o : strsOk c = true) : (pairD c).canLay0 = true := by
  unfold strsOk at o
  rw [Bool.and_eq_true] at o
  unfold pairD PyData.canLay0
  simp [PyData.canLayAll0, PyData.canLay0, o]
theorem lay_pairs : ∀ (cs : List (Str × Str)), (∀ c ∈ cs, strsOk c = true) → PyData.canLayAll0 (cs.map pairD) = true
  | [], _ => rfl
  | c :: cs, o => by
    rw [List.map_cons]
    unfold PyData.canLayAll0
    rw [lay_pair c (o c (List.mem_cons_self ..)), lay_pairs cs fun x hx => o x (List.mem_cons_of_mem _ hx)]
    rfl
theorem depth_pair (c : Str × Str) : (pairD c).depth ≤ 1 := by
  unfold pairD PyData.depth
  simp [PyData.depthAll, PyData.depth]
theorem cmp_in_pairs {h : AH} {n : Nat} {x y : Str} {cs : List (Str × Str)} (o : strsOk (x, y) = true) (os : ∀ c ∈ cs, strsOk c = true) (e : h[n]? = some (.lst (cs.map pairP))) : cmpV inP (.tup [.str x, .str y]) (.obj n) h = .ok (decide ((x, y) ∈ cs)) h := by
  have d1 : dat h (.tup [.str x, .str y]) = some (pairD (x, y)) := rfl
  have d2 : dat h (.obj n) = some (.list (cs.map pairD)) := by
    show (match h[n]? with
      | some (.lst xs) => (datasP (resolve h 3) xs).map PyData.list
      | _ => none) = _
    rw [e]
    show (datasP (resolve h 3) (cs.map pairP)).map PyData.list = _
    rw [datas_map pairP pairD (fun _ => rfl)]
    rfl
  have s1 : SeqAt.shaped (pairD (x, y)) = true := by
    unfold SeqAt.shaped
    rw [lay_pair _ o, decide_eq_true (by have := depth_pair (x, y); omega)]
    rfl
  have s2 : SeqAt.shaped (.list (cs.map pairD)) = true := by
    unfold SeqAt.shaped
    have l : (PyData.list (cs.map pairD)).canLay0 = true := by
      unfold PyData.canLay0
      exact lay_pairs cs os
    have dp : (PyData.list (cs.map pairD)).depth ≤ 64 := by
      unfold PyData.depth
      have := depth_map pairD 1 depth_pair cs
      omega
    rw [l, decide_eq_true dp]
    rfl
  refine cmpV_some ?_
  show (match h[n]? with
    | some (.dct kvs) => (keyOf (.tup [.str x, .str y])).map fun k => (getP kvs k).isSome
    | _ => (match dat h (.tup [.str x, .str y]), dat h (.obj n) with
      | some d, some (.list ds) => if SeqAt.shaped d = true ∧ SeqAt.shaped (.list ds) = true then some (ds.any fun z => PyData.eqv z d) else none
      | _, _ => none)) = _
  rw [e]
  dsimp only
  rw [d1, d2]
  dsimp only
  rw [if_pos ⟨s1, s2⟩, List.any_map]
  congr 1
  induction cs with
  | nil => rfl
  | cons c cs ih =>
    rw [List.any_cons]
    have z : ∀ l : List (Str × Str), (l.any ((fun z => PyData.eqv z (pairD (x, y))) ∘ pairD)) = decide ((x, y) ∈ l) := by
      intro l
      induction l with
      | nil => rfl
      | cons b l ih =>
        rw [List.any_cons, ih]
        show (PyData.eqv (pairD b) (pairD (x, y)) || _) = _
        rw [eqv_pair]
        by_cases a : b = (x, y)
        · simp [a]
        · have a2 : ¬ ((x, y) = b) := fun w => a w.symm
          simp [a, a2]
    exact z (c :: cs)
section
variable {h : AH} {d p r c k : Nat} {pegs : List (Str × List Fr)} {rings : List (Str × List Fr × List Fr)} {cords : List (Str × Str)}
theorem p_put_ring (D : DrS h d p r c k pegs rings []) {x : Str} {ws : List Str} {xs ys : List Fr} (o : nameOk x = true) (np : x ∉ pegs.map (·.1)) (nr : x ∉ rings.map (·.1)) (ne : pegs ≠ []) (hw : WordsAre ws (xs ++ ys)) (hx : ∀ x ∈ xs ++ ys, NumOk x) (lx : xs.length = k) (ly : ys.length = k) (l3 : k ≤ 3) (l8 : rings.length < 8) :
    m_Drafts_put_ring [.obj d, .lst (.str "ring" :: .str x :: ws.map P.str)] h = .ok (.bl true) (h.set r (.dct (ringK (rings ++ [(x, (xs, ys))])))) := by
  refine fn_set (j := [.dct []]) ?_ (clean_rings _ _) rfl
  unfold b_Drafts_put_ring
  have lw : ws.length = 2 * k := by rw [hw.len, List.length_append]; omega
  have D1 : DrS (h ++ [.dct []]) d p r c k pegs rings [] := D.app
  have cut : cutP (P.str "ring" :: .str x :: ws.map P.str) (some 2) none = ws.map P.str := by
    have z := cutP_from (P.str "ring" :: .str x :: ws.map P.str) 2
    exact z
  have s0 : ∀ a b, eSlot "Drafts" 0 (eV 0) [some (.obj d), a, b] h = .ok (.int k) h := fun a b => eSlot_of (eV_some rfl) D.ins rfl
  have s0' : ∀ a b, eSlot "Drafts" 0 (eV 0) [some (.obj d), a, b] (h ++ [.dct []]) = .ok (.int k) (h ++ [.dct []]) := fun a b => eSlot_of (eV_some rfl) D1.ins rfl
  have s2 : ∀ a b, eSlot "Drafts" 2 (eV 0) [some (.obj d), a, b] h = .ok (.obj p) h := fun a b => eSlot_of (eV_some rfl) D.ins rfl
  have s1 : ∀ a b, eSlot "Drafts" 1 (eV 0) [some (.obj d), a, b] (h ++ [.dct []]) = .ok (.obj c) (h ++ [.dct []]) := fun a b => eSlot_of (eV_some rfl) D1.ins rfl
  have s3 : ∀ a b, eSlot "Drafts" 3 (eV 0) [some (.obj d), a, b] (h ++ [.dct []]) = .ok (.obj r) (h ++ [.dct []]) := fun a b => eSlot_of (eV_some rfl) D1.ins rfl
  have mu : vMul (.int 2) (.int k) h = .ok (.int (2 * (k : Int))) h := by
    have z := v_mul (i := 2) (j := k) h (by
      have q : k = 0 ∨ k = 1 ∨ k = 2 ∨ k = 3 := by omega
      rcases q with e | e | e | e <;> subst e <;> decide)
    rw [z]
  have ni := p_numbers_in h hw hx (by omega)
  rw [lw, show ((2 * k : Nat) : Int) = 2 * (k : Int) by omega] at ni
  have mt : ∀ b, eMeth "Drafts" 2 m_Drafts_is_new (eV 0) (lC (eB itemP (eV 1) (eC (.int 1))) lN) [some (.obj d), some (.lst (.str "ring" :: .str x :: ws.map P.str)), b] h = .ok (.bl true) h := fun b =>
    (eMeth_of (n := d) (xs := [.str x]) (h1 := h) (h2 := h) (eV_some rfl) D.ins (by simp) rfl).trans (p_is_new D o np nr)
  have pe : (pegK pegs).isEmpty = false := by
    cases pegs with
    | nil => exact absurd rfl ne
    | cons _ _ => rfl
  have c0 : cmpV (eqD0 false) (.obj p) (.obj h.length) (h ++ [.dct []]) = .ok false (h ++ [.dct []]) := by
    rw [cmp_D0 D1.hp (by simp), pe]
    rfl
  have c1 := cmp_L0 D1.hc
  have g2 : getP (ringK rings) (.inr x) = none := by rw [get_rings, lookup_none nr]; rfl
  have lp : (ringK rings).length = rings.length := by unfold ringK; rw [List.length_map]
  have st := put_dct (p := .tup [rowP xs, rowP ys]) D1.hr g2 (by omega)
  have pk : ringK rings ++ [(.inr x, .tup [rowP xs, rowP ys])] = ringK (rings ++ [(x, (xs, ys))]) := by unfold ringK; rw [List.map_append]; rfl
  rw [pk, List.set_append_left _ _ (List.getElem?_eq_some_iff.mp D.hr).1] at st
  have D2 : DrS (h.set r (.dct (ringK (rings ++ [(x, (xs, ys))]))) ++ [.dct []]) d p r c k pegs (rings ++ [(x, (xs, ys))]) [] := (D.withRings _).app
  have s4 : ∀ a b, eSlot "Drafts" 3 (eV 0) [some (.obj d), a, b] (h.set r (.dct (ringK (rings ++ [(x, (xs, ys))]))) ++ [.dct []]) = .ok (.obj r) (h.set r (.dct (ringK (rings ++ [(x, (xs, ys))]))) ++ [.dct []]) := fun a b => eSlot_of (eV_some rfl) D2.ins rfl
  have ln := len_dct D2.hr
  have lq : (ringK (rings ++ [(x, (xs, ys))])).length = rings.length + 1 := by unfold ringK; rw [List.length_map, List.length_append]; rfl
  rw [lq] at ln
  have lf : ((rings.length : Int) + 1 ≤ 8) := by omega
  have k1 : cutP ((xs ++ ys).map ratP) none (some (k : Int)) = xs.map ratP := by
    rw [cutP_upto, ← List.map_take, ← lx, List.take_left]
  have k2 : cutP ((xs ++ ys).map ratP) (some (k : Int)) none = ys.map ratP := by
    rw [cutP_from, ← List.map_drop, ← lx, List.drop_left]
  simp only [List.map_append] at k1 k2
  simp only [rowP] at st ni
  simp [s0, s2, mu, cut, ni]
  simp [mt, s0', s1, s2, s3, c0, c1, k1, k2, st, s4, ln, lf]
theorem p_put_cord (D : DrS h d p r c k pegs rings cords) {x y : Str} {rx ry : List Fr} (hx : NetR.place ⟨"", k, pegs, rings, cords⟩ x = some rx) (hy : NetR.place ⟨"", k, pegs, rings, cords⟩ y = some ry) (ne : rx ≠ ry) (hr : x ∈ rings.map (·.1) ∨ y ∈ rings.map (·.1)) (n1 : (x, y) ∉ cords) (n2 : (y, x) ∉ cords) (l20 : cords.length < 20) (so : strsOk (x, y) = true) (sos : ∀ c ∈ cords, strsOk c = true) :
    m_Drafts_put_cord [.obj d, .lst [.str "cord", .str x, .str y]] h = .ok (.bl true) (h.set c (.lst ((cords ++ [(x, y)]).map pairP))) := by
  refine fn_set (j := []) ?_ (clean_cords _ _) rfl
  unfold b_Drafts_put_cord
  have cut : cutP [P.str "cord", .str x, .str y] (some 1) none = [.str x, .str y] := rfl
  have loc : ∀ z, (∃ rz, NetR.place ⟨"", k, pegs, rings, cords⟩ z = some rz) → ((getP (pegK pegs) (.inr z)).isSome || (getP (ringK rings) (.inr z)).isSome) = true := by
    rintro z ⟨rz, e⟩
    rw [get_pegs, get_rings]
    unfold NetR.place at e
    dsimp only at e
    cases q : pegs.lookup z with
    | some a => rfl
    | none =>
      rw [q] at e
      cases q2 : rings.lookup z with
      | some a => rfl
      | none => rw [q2] at e; cases e
  have isr : ∀ z, (getP (ringK rings) (.inr z)).isSome = decide (z ∈ rings.map (·.1)) := by
    intro z
    rw [get_rings]
    by_cases m : z ∈ rings.map (·.1)
    · obtain ⟨a, e, _⟩ := lookup_some m
      rw [e, decide_eq_true m]
      rfl
    · rw [lookup_none m, decide_eq_false m]
      rfl
  have t0 : ∀ z acc, eSlot "Drafts" 2 (eV 0) [some (.obj d), some (.lst [.str "cord", .str x, .str y]), some (.tup [.str x, .str y]), some (.str z)] (h ++ [.lst acc]) = .ok (.obj p) (h ++ [.lst acc]) := fun z acc => eSlot_of (eV_some rfl) (D.app (j := [.lst acc])).ins rfl
  have t1 : ∀ z acc, eSlot "Drafts" 3 (eV 0) [some (.obj d), some (.lst [.str "cord", .str x, .str y]), some (.tup [.str x, .str y]), some (.str z)] (h ++ [.lst acc]) = .ok (.obj r) (h ++ [.lst acc]) := fun z acc => eSlot_of (eV_some rfl) (D.app (j := [.lst acc])).ins rfl
  have e1 : lcF ⟨[x, y].map P.str, []⟩ h (gN 3) tY (eOr (eCmp inP (eV 3) (eSlot "Drafts" 2 (eV 0))) (eCmp inP (eV 3) (eSlot "Drafts" 3 (eV 0)))) [some (.obj d), some (.lst [.str "cord", .str x, .str y]), some (.tup [.str x, .str y]), none] ([x, y].map P.str) [] h = .ok (.lst ([x, y].map fun _ => .bl true)) h := by
    refine lc_map _ _ (by simp) fun z hz acc => ?_
    have hz2 : ∃ rz, NetR.place ⟨"", k, pegs, rings, cords⟩ z = some rz := by
      rcases List.mem_cons.mp hz with rfl | hz
      · exact ⟨_, hx⟩
      · rw [List.mem_singleton.mp hz]
        exact ⟨_, hy⟩
    have o := loc z hz2
    have i1 := cmp_in_dct (x := z) (D.app (j := [.lst acc])).hp
    have i2 := cmp_in_dct (x := z) (D.app (j := [.lst acc])).hr
    refine ⟨[some (.obj d), some (.lst [.str "cord", .str x, .str y]), some (.tup [.str x, .str y]), some (.str z)], [], rfl, ?_, rfl⟩
    cases q : (getP (pegK pegs) (.inr z)).isSome with
    | true =>
      rw [q] at i1
      simp [t0, i1]
    | false =>
      rw [q] at i1 o
      simp only [Bool.false_or] at o
      rw [o] at i2
      simp [t0, t1, i1, i2]
  have e2 : lcF ⟨[x, y].map P.str, []⟩ h (gN 3) tY (eCmp inP (eV 3) (eSlot "Drafts" 3 (eV 0))) [some (.obj d), some (.lst [.str "cord", .str x, .str y]), some (.tup [.str x, .str y]), none] ([x, y].map P.str) [] h = .ok (.lst ([x, y].map fun z => .bl (decide (z ∈ rings.map (·.1))))) h := by
    refine lc_map _ _ (by simp) fun z hz acc => ?_
    have i2 := cmp_in_dct (x := z) (D.app (j := [.lst acc])).hr
    rw [isr] at i2
    exact ⟨[some (.obj d), some (.lst [.str "cord", .str x, .str y]), some (.tup [.str x, .str y]), some (.str z)], [], rfl, by simp [t1, i2], rfl⟩
  have a1 := f_all ([x, y].map fun _ => true) h
  have a2 := f_any ([x, y].map fun z => decide (z ∈ rings.map (·.1))) h
  have or1 : ([x, y].map fun z => decide (z ∈ rings.map (·.1))).any id = true := by
    rcases hr with e | e
    · simp only [List.map_cons, List.any_cons, id, decide_eq_true e, Bool.true_or]
    · simp only [List.map_cons, List.any_cons, id, decide_eq_true e, Bool.true_or, Bool.or_true]
  rw [or1] at a2
  have pl : ∀ (i : Int) (z : Str) (rz : List Fr), atI [P.str x, .str y] i = some (.str z) → NetR.place ⟨"", k, pegs, rings, cords⟩ z = some rz → eMeth "Drafts" 2 m_Drafts_place (eV 0) (lC (eB itemP (eV 2) (eC (.int i))) lN) [some (.obj d), some (.lst [.str "cord", .str x, .str y]), some (.tup [.str x, .str y]), none] h = .ok (rowP rz) h := fun i z rz ez e =>
    (eMeth_of (n := d) (xs := [.str z]) (h1 := h) (h2 := h) (eV_some rfl) D.ins (by simp [ez]) rfl).trans (p_place (D.dr "") e)
  have p1 := pl 0 x rx (by simp) hx
  have p2 := pl 1 y ry (by simp) hy
  have s1 : ∀ hh, DrS hh d p r c k pegs rings cords → eSlot "Drafts" 1 (eV 0) [some (.obj d), some (.lst [.str "cord", .str x, .str y]), some (.tup [.str x, .str y]), none] hh = .ok (.obj c) hh := fun hh E => eSlot_of (eV_some rfl) E.ins rfl
  have so2 : strsOk (y, x) = true := by
    unfold strsOk at so ⊢
    rw [Bool.and_comm]
    exact so
  have i1 := cmp_in_pairs (x := x) (y := y) so sos D.hc
  have i2 := cmp_in_pairs (x := y) (y := x) so2 sos D.hc
  rw [decide_eq_false n1] at i1
  rw [decide_eq_false n2] at i2
  have rv : revP (.tup [.str x, .str y]) h = .ok (.tup [.str y, .str x]) h := rfl
  have ap := append_at (y := pairP (x, y)) D.hc (by rw [List.length_map]; omega)
  have em : cords.map pairP ++ [pairP (x, y)] = (cords ++ [(x, y)]).map pairP := by rw [List.map_append]; rfl
  rw [em] at ap
  have D2 := D.withCords (cords ++ [(x, y)])
  have s2 : eSlot "Drafts" 1 (eV 0) [some (.obj d), some (.lst [.str "cord", .str x, .str y]), some (.tup [.str x, .str y]), none] (h.set c (.lst ((cords ++ [(x, y)]).map pairP))) = .ok (.obj c) (h.set c (.lst ((cords ++ [(x, y)]).map pairP))) := eSlot_of (eV_some rfl) D2.ins rfl
  have ln := len_lst D2.hc
  rw [List.length_map, List.length_append] at ln
  have lf : ((cords.length : Int) + 1 ≤ 20) := by omega
  have it := isTy_at D.hc
  have cr := cmp_rows rx ry h
  rw [decide_eq_false ne] at cr
  simp only [List.map_cons, List.map_nil] at e1 e2 a1 a2
  have pp : pairP (x, y) = .tup [.str x, .str y] := rfl
  rw [pp] at ap
  simp only [sQ_at, sA_at, eCB_at, lC_at, lN_at, eSlice_at]
  simp [cut]
  simp only [eLc_at]
  simp [e1, a1, p1, p2, cr, eLc_at, e2]
  simp at a1 a2
  simp [e1, a1, p1, p2, cr, eLc_at, e2, a2, s1 h D, i1, rv, i2, it]
  simp only [List.map_append, List.map_cons, List.map_nil] at s2 ln
  simp [ap]
  simp [s2, ln, lf]
theorem p_put_peg_put (D : DrS h d p r c k pegs rings cords) {ws : List P} {q : P} {h2 : AH} {z : Str} (e : m_Drafts_put_peg [.obj d, .lst (.str "peg" :: .str z :: ws)] h = .ok q h2) (l : h2.length = h.length) : m_Drafts_put [.obj d, .lst (.str "peg" :: .str z :: ws)] h = .ok q h2 := by
  have mt : eMeth "Drafts" 2 m_Drafts_put_peg (eV 0) (lC (eV 1) lN) [some (.obj d), some (.lst (.str "peg" :: .str z :: ws))] h = .ok q h2 :=
    (eMeth_of (n := d) (xs := [.lst (.str "peg" :: .str z :: ws)]) (h1 := h) (h2 := h) (eV_some rfl) D.ins (by simp) rfl).trans e
  have b : b_Drafts_put ([P.obj d, .lst (.str "peg" :: .str z :: ws)].map some ++ List.replicate (N_Drafts_put.length - [P.obj d, .lst (.str "peg" :: .str z :: ws)].length) none) h = .rt q h2 := by
    unfold b_Drafts_put
    have lt : (1 : Int) < (ws.length : Int) + 1 + 1 := by omega
    simp [lt, mt]
  show mkFn _ b_Drafts_put _ h = _
  unfold mkFn
  rw [b]
  show Out.ok q (trim h q h2) = _
  rw [trim_len l]
theorem p_put_ring_put (D : DrS h d p r c k pegs rings cords) {ws : List P} {q : P} {h2 : AH} {z : Str} (e : m_Drafts_put_ring [.obj d, .lst (.str "ring" :: .str z :: ws)] h = .ok q h2) (l : h2.length = h.length) : m_Drafts_put [.obj d, .lst (.str "ring" :: .str z :: ws)] h = .ok q h2 := by
  have mt : eMeth "Drafts" 2 m_Drafts_put_ring (eV 0) (lC (eV 1) lN) [some (.obj d), some (.lst (.str "ring" :: .str z :: ws))] h = .ok q h2 :=
    (eMeth_of (n := d) (xs := [.lst (.str "ring" :: .str z :: ws)]) (h1 := h) (h2 := h) (eV_some rfl) D.ins (by simp) rfl).trans e
  have b : b_Drafts_put ([P.obj d, .lst (.str "ring" :: .str z :: ws)].map some ++ List.replicate (N_Drafts_put.length - [P.obj d, .lst (.str "ring" :: .str z :: ws)].length) none) h = .rt q h2 := by
    unfold b_Drafts_put
    have lt : (1 : Int) < (ws.length : Int) + 1 + 1 := by omega
    have ne : (("ring" : Str) == ("peg" : Str)) = false := by decide
    simp [lt, mt, ne]
  show mkFn _ b_Drafts_put _ h = _
  unfold mkFn
  rw [b]
  show Out.ok q (trim h q h2) = _
  rw [trim_len l]
theorem p_put_cord_put (D : DrS h d p r c k pegs rings cords) {ws : List P} {q : P} {h2 : AH} (e : m_Drafts_put_cord [.obj d, .lst (.str "cord" :: ws)] h = .ok q h2) (l : h2.length = h.length) : m_Drafts_put [.obj d, .lst (.str "cord" :: ws)] h = .ok q h2 := by
  have mt : eMeth "Drafts" 2 m_Drafts_put_cord (eV 0) (lC (eV 1) lN) [some (.obj d), some (.lst (.str "cord" :: ws))] h = .ok q h2 :=
    (eMeth_of (n := d) (xs := [.lst (.str "cord" :: ws)]) (h1 := h) (h2 := h) (eV_some rfl) D.ins (by simp) rfl).trans e
  have b : b_Drafts_put ([P.obj d, .lst (.str "cord" :: ws)].map some ++ List.replicate (N_Drafts_put.length - [P.obj d, .lst (.str "cord" :: ws)].length) none) h = .rt q h2 := by
    unfold b_Drafts_put
    have ne : (("cord" : Str) == ("peg" : Str)) = false := by decide
    have ne2 : (("cord" : Str) == ("ring" : Str)) = false := by decide
    simp [mt, ne, ne2]
  show mkFn _ b_Drafts_put _ h = _
  unfold mkFn
  rw [b]
  show Out.ok q (trim h q h2) = _
  rw [trim_len l]
end
end
end K14


/-! a net from its text -/
namespace K14
open PySem PySem.Spec PyProof.Rows L2 AM
noncomputable section
theorem p_dr_init (h : AH) (k : Int) : m_Drafts_u_init_u [.obj h.length, .int k] (h ++ [.ins "Drafts" []]) = .ok .non (h ++ [.ins "Drafts" [some (.int k), some (.obj (h.length + 3)), some (.obj (h.length + 1)), some (.obj (h.length + 2))], .dct [], .dct [], .lst []]) := by
  have b : b_Drafts_u_init_u [some (.obj h.length), some (.int k)] (h ++ [.ins "Drafts" []]) = .nx [some (.obj h.length), some (.int k)] (h ++ [.ins "Drafts" [some (.int k), some (.obj (h.length + 3)), some (.obj (h.length + 1)), some (.obj (h.length + 2))], .dct [], .dct [], .lst []]) := by
    unfold b_Drafts_u_init_u
    have s1 : ∀ (fs : List (Option P)) (j : AH) (i : Nat) (p : P), setSlotP "Drafts" i (.obj h.length) p (h ++ .ins "Drafts" fs :: j) = some (h ++ .ins "Drafts" (putSl i p fs) :: j) := fun fs j i p => by
      rw [set_slot (fs := fs) (by simp)]
      simp
    have g3 : ∀ (r : GMs) (a b c : P) (t : AM.Loc) (h : AH), gU 3 r (.tup [a, b, c]) t h = r [a, b, c] t h := fun r a b c t h => rfl
    simp [s1, g3]
    rfl
  show mkFn _ b_Drafts_u_init_u _ _ = _
  unfold mkFn
  have e : ([P.obj h.length, .int k].map some ++ List.replicate (N_Drafts_u_init_u.length - [P.obj h.length, .int k].length) none) = [some (.obj h.length), some (.int k)] := rfl
  rw [e, b]
  show Out.ok P.non (trim _ _ _) = _
  rw [trim_keep (k := h.length) (o := .ins "Drafts" [some (.int k), some (.obj (h.length + 3)), some (.obj (h.length + 1)), some (.obj (h.length + 2))]) (o2 := .ins "Drafts" []) (by simp) (by simp) (by simp) (by simp) (by
    show List.all _ _ = false
    simp [clean])]
structure DraftR where
  pegs : List (Str × List Fr)
  rings : List (Str × List Fr × List Fr)
  cords : List (Str × Str)
def wordsP (ws : List Str) : P := .lst (ws.map P.str)
/-- a line told to the drafts -/
inductive Put (k : Nat) : DraftR → List Str → DraftR → Prop
  | peg {pegs x ws xs} (o : nameOk x = true) (np : x ∉ pegs.map (·.1)) (hw : WordsAre ws xs) (hx : ∀ x ∈ xs, NumOk x) (lw : ws.length = k) (l16 : pegs.length < 16) : Put k ⟨pegs, [], []⟩ ("peg" :: x :: ws) ⟨pegs ++ [(x, xs)], [], []⟩
  | ring {pegs rings x ws xs ys} (o : nameOk x = true) (np : x ∉ pegs.map (·.1)) (nr : x ∉ rings.map (·.1)) (ne : pegs ≠ []) (hw : WordsAre ws (xs ++ ys)) (hx : ∀ x ∈ xs ++ ys, NumOk x) (lx : xs.length = k) (ly : ys.length = k) (l8 : rings.length < 8) : Put k ⟨pegs, rings, []⟩ ("ring" :: x :: ws) ⟨pegs, rings ++ [(x, (xs, ys))], []⟩
  | cord {pegs rings cords x y rx ry} (hx : NetR.place ⟨"", k, pegs, rings, cords⟩ x = some rx) (hy : NetR.place ⟨"", k, pegs, rings, cords⟩ y = some ry) (ne : rx ≠ ry) (hr : x ∈ rings.map (·.1) ∨ y ∈ rings.map (·.1)) (n1 : (x, y) ∉ cords) (n2 : (y, x) ∉ cords) (l20 : cords.length < 20) (so : strsOk (x, y) = true) (sos : ∀ c ∈ cords, strsOk c = true) : Put k ⟨pegs, rings, cords⟩ ["cord", x, y] ⟨pegs, rings, cords ++ [(x, y)]⟩
inductive Puts (k : Nat) : DraftR → List (List Str) → DraftR → Prop
  | nil {a} : Puts k a [] a
  | cons {a b c ws r} : Put k a ws b → Puts k b r c → Puts k a (ws :: r) c
def Same (h h' : AH) (p r c : Nat) : Prop := h'.length = h.length ∧ ∀ n, n ≠ p → n ≠ r → n ≠ c → h'[n]? = h[n]?
theorem p_put {d p r c k : Nat} (l3 : k ≤ 3) {A B : DraftR} {ws : List Str} (H : Put k A ws B) {h : AH} (D : DrS h d p r c k A.pegs A.rings A.cords) : ∃ h', m_Drafts_put [.obj d, wordsP ws] h = .ok (.bl true) h' ∧ DrS h' d p r c k B.pegs B.rings B.cords ∧ Same h h' p r c := by
  cases H with
  | peg o np hw hx lw l16 =>
    exact ⟨_, p_put_peg_put D (p_put_peg D o np hw hx lw l3 l16) (by simp), D.withPegs _, by simp, fun n a _ _ => List.getElem?_set_ne (Ne.symm a)⟩
  | ring o np nr ne hw hx lx ly l8 =>
    exact ⟨_, p_put_ring_put D (p_put_ring D o np nr ne hw hx lx ly l3 l8) (by simp), D.withRings _, by simp, fun n _ a _ => List.getElem?_set_ne (Ne.symm a)⟩
  | cord hx hy ne hr n1 n2 l20 so sos =>
    exact ⟨_, p_put_cord_put D (p_put_cord D hx hy ne hr n1 n2 l20 so sos) (by simp), D.withCords _, by simp, fun n _ _ a => List.getElem?_set_ne (Ne.symm a)⟩
theorem p_puts {d p r c k : Nat} (l3 : k ≤ 3) {S : Src} (hS : S.w = []) {h0 : AH} {u v w : Option P} : ∀ {rows : List (List Str)} {A B : DraftR} (H : Puts k A rows B) {h : AH} (D : DrS h d p r c k A.pegs A.rings A.cords) (i : Nat) (x y : Option P),
    ∃ h' x' y', forP S h0 (gT 2 (gsC (gN 4) (gsC (gN 5) gsN))) (sIf (tNt (tT (eMeth "Drafts" 2 m_Drafts_put (eV 3) (lC (eV 5) lN)))) sBad sNx) (enumP i (rows.map wordsP)) [u, v, w, some (.obj d), x, y] h = .nx [u, v, w, some (.obj d), x', y'] h' ∧ DrS h' d p r c k B.pegs B.rings B.cords ∧ Same h h' p r c := by
  intro rows
  induction rows with
  | nil =>
    intro A B H h D i x y
    cases H
    refine ⟨h, x, y, ?_, D, rfl, fun _ _ _ _ => rfl⟩
    show forP _ _ _ _ [] _ _ = _
    unfold forP
    rw [if_pos (by unfold Src.still; rw [hS]; simp)]
  | cons ws rows ih =>
    intro A B H h D i x y
    cases H with
    | cons H1 H2 =>
      obtain ⟨h1, e1, D1, S1⟩ := p_put l3 H1 D
      obtain ⟨h2, x', y', e2, D2, S2⟩ := ih H2 D1 (i + 1) (some (.int (i : Nat))) (some (wordsP ws))
      refine ⟨h2, x', y', ?_, D2, S2.1.trans S1.1, fun n a b e => (S2.2 n a b e).trans (S1.2 n a b e)⟩
      show forP _ _ _ _ (.tup [.int (i : Nat), wordsP ws] :: enumP (i + 1) (rows.map wordsP)) _ _ = _
      unfold forP
      rw [if_pos (by unfold Src.still; rw [hS]; simp)]
      have g : gT 2 (gsC (gN 4) (gsC (gN 5) gsN)) (.tup [.int (i : Nat), wordsP ws]) [u, v, w, some (.obj d), x, y] h = some ([u, v, w, some (.obj d), some (.int (i : Nat)), some (wordsP ws)], h) := rfl
      rw [g]
      dsimp only
      have mt : eMeth "Drafts" 2 m_Drafts_put (eV 3) (lC (eV 5) lN) [u, v, w, some (.obj d), some (.int (i : Nat)), some (wordsP ws)] h = .ok (.bl true) h1 := (eMeth_of (n := d) (xs := [wordsP ws]) (h1 := h) (h2 := h) (eV_some rfl) D.ins (by simp) rfl).trans e1
      have b : sIf (tNt (tT (eMeth "Drafts" 2 m_Drafts_put (eV 3) (lC (eV 5) lN)))) sBad sNx [u, v, w, some (.obj d), some (.int (i : Nat)), some (wordsP ws)] h = .nx [u, v, w, some (.obj d), some (.int (i : Nat)), some (wordsP ws)] h1 := by
        simp [mt]
      rw [b]
      exact e2
/-- the text of a net: its lines' words -/
structure TextOf (text : Str) (k : Nat) (cw : Str) (rows : List (List Str)) : Prop where
  few : text.length + 2 ≤ 16777216
  split : (Txt.split text "\n").map (fun x => Txt.split x " ") = [("net" : Str), cw] :: rows
  lines : ∀ x ∈ Txt.split text "\n", x.length + 2 ≤ 16777216
  many : rows.length ≤ 1000
  word : WhIs cw k
  k1 : 1 ≤ k
  k3 : k ≤ 3
theorem p_drafts_of {text cw : Str} {k : Nat} {rows : List (List Str)} {B : DraftR} (T : TextOf text k cw rows) (H : Puts k ⟨[], [], []⟩ rows B) (ne : B.pegs ≠ []) (h : AH) :
    ∃ h' p r c, m_drafts_of [.str text] h = .ok (.obj h.length) h' ∧ DrS h' h.length p r c k B.pegs B.rings B.cords ∧ ∀ n, n < h.length → h'[n]? = h[n]? := by
  have lr : (Txt.split text "\n").length = rows.length + 1 := by
    have z := congrArg List.length T.split
    rw [List.length_map] at z
    exact z
  have lo := p_lines_of h T.few T.lines (by have := T.many; omega)
  have lo2 : ((Txt.split text "\n").map fun x => P.lst ((Txt.split x " ").map P.str)) = wordsP [("net" : Str), cw] :: rows.map wordsP := by
    have z := congrArg (List.map wordsP) T.split
    rw [List.map_map] at z
    exact z
  rw [lo2] at lo
  have co := p_coords_in (k := k) h T.word (by have := T.k1; omega) (by have := T.k3; omega)
  have ini := new_of (p_dr_init h k)
  have D0 : DrS (h ++ [.ins "Drafts" [some (.int k), some (.obj (h.length + 3)), some (.obj (h.length + 1)), some (.obj (h.length + 2))], .dct [], .dct [], .lst []]) h.length (h.length + 1) (h.length + 2) (h.length + 3) k [] [] [] :=
    ⟨by simp, by simp [pegK], by simp [ringK], by simp, by omega⟩
  have cut : cutP (wordsP [("net" : Str), cw] :: rows.map wordsP) (some 1) none = rows.map wordsP := by
    have z := cutP_from (wordsP [("net" : Str), cw] :: rows.map wordsP) 1
    exact z
  obtain ⟨h1, x', y', ef, D1, S1⟩ := p_puts T.k3 (S := ⟨enumP 0 (rows.map wordsP), []⟩) rfl (h0 := h ++ [.ins "Drafts" [some (.int k), some (.obj (h.length + 3)), some (.obj (h.length + 1)), some (.obj (h.length + 2))], .dct [], .dct [], .lst []]) (u := some (.str text)) (v := some (.lst (wordsP [("net" : Str), cw] :: rows.map wordsP))) (w := some (.int k)) H D0 0 none none
  refine ⟨h1 ++ [.dct []], h.length + 1, h.length + 2, h.length + 3, ?_, D1.app, fun n l => ?_⟩
  · have D2 : DrS (h1 ++ [.dct []]) h.length (h.length + 1) (h.length + 2) (h.length + 3) k B.pegs B.rings B.cords := D1.app
    have s2 : ∀ a b c d e, eSlot "Drafts" 2 (eV 3) [a, b, c, some (.obj h.length), d, e] h1 = .ok (.obj (h.length + 1)) h1 := fun a b c d e => eSlot_of (eV_some rfl) D1.ins rfl
    have c0 : cmpV (eqD0 false) (.obj (h.length + 1)) (.obj h1.length) (h1 ++ [.dct []]) = .ok false (h1 ++ [.dct []]) := by
      rw [cmp_D0 D2.hp (by simp)]
      cases q : B.pegs with
      | nil => exact absurd q ne
      | cons _ _ => rfl
    have b : b_drafts_of [some (.str text), none, none, none, none, none] h = .rt (.obj h.length) (h1 ++ [.dct []]) := by
      unfold b_drafts_of
      have co2 : m_coords_in [wordsP [("net" : Str), cw]] h = .ok (.int k) h := co
      simp [lo, co2, ini, cut, ef, s2, c0]
    show mkFn _ b_drafts_of _ _ = _
    unfold mkFn
    have e : ([P.str text].map some ++ List.replicate (N_drafts_of.length - [P.str text].length) none) = [some (.str text), none, none, none, none, none] := rfl
    rw [e, b]
    show Out.ok (P.obj h.length) (trim h (.obj h.length) (h1 ++ [.dct []])) = _
    unfold trim
    rw [if_neg]
    rintro ⟨z, _⟩
    have z : decide (h.length < h.length) = true := z
    have := of_decide_eq_true z
    omega
  · have l1 := S1.1
    rw [List.getElem?_append_left (by simp at l1; omega), S1.2 n (by omega) (by omega) (by omega), List.getElem?_append_left l]
theorem p_net_init {text cw : Str} {k : Nat} {rows : List (List Str)} {B : DraftR} (T : TextOf text k cw rows) (H : Puts k ⟨[], [], []⟩ rows B) (ne : B.pegs ≠ []) (h : AH) :
    ∃ h', newOf "Net" m_Net_u_init_u [.str text] h = .ok (.obj h.length) h' ∧ NetAt h' h.length ⟨text, k, B.pegs, B.rings, B.cords⟩ ∧ ∀ i, i < h.length → h'[i]? = h[i]? := by
  obtain ⟨h1, p, r, c, e1, D1, S1⟩ := p_drafts_of T H ne (h ++ [.ins "Net" []])
  have a1 : h1[h.length]? = some (.ins "Net" []) := by
    rw [S1 h.length (by simp)]
    simp
  have l1 : h.length < h1.length := (List.getElem?_eq_some_iff.mp a1).1
  have gt : ∀ (X : O), (h1.set h.length X)[h.length]? = some X := fun X => set_get a1
  have ld : (h ++ [O.ins "Net" []]).length = h.length + 1 := by simp
  rw [ld] at e1 D1
  have t1 : setSlotP "Net" 1 (.obj h.length) (.obj (h.length + 1)) h1 = some (h1.set h.length (.ins "Net" [none, some (.obj (h.length + 1))])) := set_slot a1
  have t2 : setSlotP "Net" 3 (.obj h.length) (.str text) (h1.set h.length (.ins "Net" [none, some (.obj (h.length + 1))])) = some (h1.set h.length (.ins "Net" [none, some (.obj (h.length + 1)), none, some (.str text)])) := by
    rw [set_slot (gt _), List.set_set]
    rfl
  have D3 : ∀ (fs : List (Option P)) (j : AH), DrS (h1.set h.length (.ins "Net" fs) ++ j) (h.length + 1) p r c k B.pegs B.rings B.cords := fun fs j =>
    DrS.app ⟨get_set D1.ins a1 (fun e => by omega), get_set D1.hp a1 (fun e => by subst e; have z := D1.hp.symm.trans a1; cases z), get_set D1.hr a1 (fun e => by subst e; have z := D1.hr.symm.trans a1; cases z), get_set D1.hc a1 (fun e => by subst e; have z := D1.hc.symm.trans a1; cases z), D1.ne⟩
  have D4 := D3 [none, some (.obj (h.length + 1)), none, some (.str text)] []
  rw [List.append_nil] at D4
  have s1 : ∀ a, eSlot "Drafts" 1 (eSlot "Net" 1 (eV 0)) [some (.obj h.length), a] (h1.set h.length (.ins "Net" [none, some (.obj (h.length + 1)), none, some (.str text)])) = .ok (.obj c) (h1.set h.length (.ins "Net" [none, some (.obj (h.length + 1)), none, some (.str text)])) := fun a =>
    eSlot_of (eSlot_of (eV_some rfl) (gt _) rfl) D4.ins rfl
  have tu := tup_lst D4.hc
  have t3 : ∀ q, setSlotP "Net" 0 (.obj h.length) q (h1.set h.length (.ins "Net" [none, some (.obj (h.length + 1)), none, some (.str text)]) ++ [.dct []]) = some (h1.set h.length (.ins "Net" [some q, some (.obj (h.length + 1)), none, some (.str text)]) ++ [.dct []]) := fun q => by
    rw [set_slot (get_app (gt _)), List.set_append_left _ _ (by simpa using l1), List.set_set]
    rfl
  have t4 : ∀ q q2, setSlotP "Net" 2 (.obj h.length) q2 (h1.set h.length (.ins "Net" [some q, some (.obj (h.length + 1)), none, some (.str text)]) ++ [.dct []]) = some (h1.set h.length (.ins "Net" [some q, some (.obj (h.length + 1)), some q2, some (.str text)]) ++ [.dct []]) := fun q q2 => by
    rw [set_slot (get_app (gt _)), List.set_append_left _ _ (by simpa using l1), List.set_set]
    rfl
  have b : b_Net_u_init_u [some (.obj h.length), some (.str text)] (h ++ [.ins "Net" []]) = .nx [some (.obj h.length), some (.str text)] (h1.set h.length (.ins "Net" [some (.tup (B.cords.map pairP)), some (.obj (h.length + 1)), some (.obj h1.length), some (.str text)]) ++ [.dct []]) := by
    unfold b_Net_u_init_u
    simp [tyB, e1, t1, t2, s1, tu, t3, t4]
  have fin := D3 [some (.tup (B.cords.map pairP)), some (.obj (h.length + 1)), some (.obj h1.length), some (.str text)] [.dct []]
  refine ⟨_, new_of (h2 := h1.set h.length (.ins "Net" [some (.tup (B.cords.map pairP)), some (.obj (h.length + 1)), some (.obj h1.length), some (.str text)]) ++ [.dct []]) ?_, ⟨h.length + 1, _, get_app (gt _), rfl, rfl, rfl, fin.dr text⟩, fun i l => ?_⟩
  · show mkFn _ b_Net_u_init_u _ _ = _
    unfold mkFn
    have e : ([P.obj h.length, .str text].map some ++ List.replicate (N_Net_u_init_u.length - [P.obj h.length, .str text].length) none) = [some (.obj h.length), some (.str text)] := rfl
    rw [e, b]
    show Out.ok P.non (trim _ _ _) = _
    rw [trim_keep (k := h.length) (o := .ins "Net" [some (.tup (B.cords.map pairP)), some (.obj (h.length + 1)), some (.obj h1.length), some (.str text)]) (o2 := .ins "Net" []) (by simp) (get_app (gt _)) (by simp) (by simp) (by
      show List.all _ _ = false
      simp [clean])]
  · rw [List.getElem?_append_left (by rw [List.length_set]; omega), List.getElem?_set_ne (by omega), S1 i (by rw [ld]; omega), List.getElem?_append_left l]
end
end K14


/-! draws -/
namespace K14
open PySem PySem.Spec PyProof.Rows L2 AM
noncomputable section
theorem vmul_lt {i j : Int} {h : AH} (a : i.natAbs < 2 ^ 2000) (b : j.natAbs < 2 ^ 2000) : vMul (.int i) (.int j) h = .ok (.int (i * j)) h := v_mul h (by
  have z1 := log2_lt (by omega) a
  have z2 := log2_lt (by omega) b
  unfold mulOk
  exact decide_eq_true (by omega))
theorem abs_lt {i : Int} {b : Nat} (h0 : 0 ≤ i) (hb : i < ((2 ^ b : Nat) : Int)) : i.natAbs < 2 ^ b := by omega
theorem lt_2000 {n b : Nat} (h : n < 2 ^ b) (l : b ≤ 2000) : n < 2 ^ 2000 := Nat.lt_of_lt_of_le h (Nat.pow_le_pow_right (by omega) l)
theorem ints_map : ∀ xs : List Int, intsOf (xs.map P.int) = some xs
  | [] => rfl
  | x :: xs => by
    show (intsOf (xs.map P.int)).map (x :: ·) = _
    rw [ints_map xs]
    rfl
theorem f_sum (xs : List Int) (h : AH) : fSum [.lst (xs.map P.int)] h = .ok (.int xs.sum) h := by
  show (match (lstOf h (.lst (xs.map P.int))).bind intsOf with
    | some bs => Out.ok (P.int bs.sum) h
    | none => .bad) = _
  rw [show lstOf h (.lst (xs.map P.int)) = some (xs.map P.int) from rfl]
  show (match intsOf (xs.map P.int) with
    | some bs => Out.ok (P.int bs.sum) h
    | none => .bad) = _
  rw [ints_map]
theorem slice_scr (xs : List P) (lo hi : Option Int) (h : AH) : sliceP false (.scr xs) lo hi h = .ok (.lst (cutP xs lo hi)) h := rfl
theorem pow60 (h : AH) : vPow (.int 10) (.int 60) h = .ok (.int (10 ^ 60)) h := rfl
theorem pow300 (h : AH) : vPow (.int (10 ^ 60)) (.int 5) h = .ok (.int ((10 ^ 60) ^ 5)) h := rfl
theorem pow18 (h : AH) : vPow (.int 10) (.int 18) h = .ok (.int (10 ^ 18)) h := rfl
@[simp] theorem f_int_int (i : Int) (h : AH) : fInt [.int i] h = .ok (.int i) h := rfl
@[simp] theorem f_int_bl (b : Bool) (h : AH) : fInt [.bl b] h = .ok (.int (if b then 1 else 0)) h := rfl
def bigM : Int := (10 ^ 60) ^ 5
theorem bigM_pos : 0 < bigM := by unfold bigM; decide
theorem bigM_lt : bigM < ((2 ^ 1000 : Nat) : Int) := by unfold bigM; decide
structure PotOk (a b : Int) : Prop where
  a0 : 0 ≤ a
  a1 : a < ((2 ^ 1000 : Nat) : Int)
  b0 : 0 ≤ b
  b1 : b < ((2 ^ 62 : Nat) : Int)
theorem p_pot (ns : List Int) (i : Nat) (hi : i ≤ 63) (h : AH) : ∃ a b : Int, PotOk a b ∧ m__law_pot [.scr (ns.map P.int), .int (i : Nat)] h = .ok (.obj h.length) (h ++ [.lst [.int a, .int b, .int 0]]) := by
  have ai : (i : Int).natAbs < 2 ^ 200 := by
    have : (i : Int).natAbs ≤ 63 := by omega
    exact Nat.lt_of_le_of_lt this (by decide)
  have mi : ∀ (k : Int) (hh : AH), k.natAbs < 2 ^ 200 → vMul (.int k) (.int (i : Nat)) hh = .ok (.int (k * (i : Nat))) hh := fun k hh l => vmul_lt (lt_2000 l (by omega)) (lt_2000 ai (by omega))
  have mii : ∀ (k : Int) (hh : AH), k.natAbs < 2 ^ 200 → vMul (.int (k * (i : Nat))) (.int (i : Nat)) hh = .ok (.int (k * (i : Nat) * (i : Nat))) hh := fun k hh l => vmul_lt (by
    rw [Int.natAbs_mul]
    have : k.natAbs * (i : Int).natAbs < 2 ^ 200 * 2 ^ 200 := Nat.mul_lt_mul'' l ai
    rw [← Nat.pow_add] at this
    exact lt_2000 this (by omega)) (lt_2000 ai (by omega))
  have cell : ∃ c : Int, (eIf (tCp ltP (eV 1) (eCB fLen (lC (eV 0) lN))) (eB itemP (eV 0) (eV 1)) (eB (vAdd false) (eB (vAdd false) (eB vMod (eCB fSum (lC (eSlice false (eV 0) oN (oS (eC (.int 1)))) lN)) (eC (.int 1000003))) (eB vMul (eC (.int 2643)) (eV 1))) (eC (.int 1647)))) [some (.scr (ns.map P.int)), some (.int (i : Nat)), none, none, none] h = .ok (.int c) h := by
    by_cases l : i < ns.length
    · refine ⟨ns[i], ?_⟩
      have l2 : (i : Int) < (ns.length : Int) := by omega
      simp [l2, AM.atI_nat, l]
    · have l2 : ¬ (i : Int) < (ns.length : Int) := by omega
      have cut : cutP (ns.map P.int) none (some 1) = (ns.map P.int).take 1 := by
        have z := cutP_upto (ns.map P.int) 1
        exact z
      refine ⟨(ns.take 1).sum % 1000003 + 2643 * (i : Nat) + 1647, ?_⟩
      simp only [eIf_at, tCp_at]
      simp [l2, slice_scr]
      have fs : fSum [.lst ((ns.map P.int).take 1)] h = .ok (.int (ns.take 1).sum) h := by
        rw [← List.map_take]
        exact f_sum _ _
      simp [cut, fs, mi]
  obtain ⟨c, ec⟩ := cell
  have a0 : 0 ≤ ((c.natAbs : Nat) : Int) % bigM := Int.emod_nonneg _ (by have := bigM_pos; omega)
  have a1 : ((c.natAbs : Nat) : Int) % bigM < bigM := Int.emod_lt_of_pos _ bigM_pos
  have a2 := bigM_lt
  have m1 : ∀ (b : Bool) (hh : AH), vMul (.int (((c.natAbs : Nat) : Int) % bigM)) (.int (if b then 1 else 0)) hh = .ok (.int ((((c.natAbs : Nat) : Int) % bigM) * (if b then 1 else 0))) hh := fun b hh => vmul_lt (lt_2000 (abs_lt (b := 1000) a0 (by omega)) (by omega)) (by cases b <;> exact Nat.lt_of_le_of_lt (by decide) (Nat.one_lt_two_pow (n := 2000) (by omega)))
  have s0 : 0 ≤ c % 2305843009213693951 := Int.emod_nonneg _ (by omega)
  have s1 : c % 2305843009213693951 < 2305843009213693951 := Int.emod_lt_of_pos _ (by omega)
  have m2 : ∀ (k : Int) (hh : AH), k.natAbs < 2 ^ 200 → vMul (.int (c % 2305843009213693951)) (.int k) hh = .ok (.int (c % 2305843009213693951 * k)) hh := fun k hh l => vmul_lt (lt_2000 (b := 62) (by omega) (by omega)) (lt_2000 l (by omega))
  have vm : ∀ hh, vMod (.int ((c.natAbs : Nat) : Int)) (.int ((10 ^ 60) ^ 5)) hh = .ok (.int (((c.natAbs : Nat) : Int) % bigM)) hh := fun hh => v_mod hh bigM_pos
  have aok : ∀ b : Bool, 0 ≤ (((c.natAbs : Nat) : Int) % bigM) * (if b then 1 else 0) ∧ (((c.natAbs : Nat) : Int) % bigM) * (if b then 1 else 0) < ((2 ^ 1000 : Nat) : Int) := fun b => by
    cases b
    · refine ⟨by simp, ?_⟩
      simp only [Bool.false_eq_true, if_false, Int.mul_zero]
      omega
    · refine ⟨by simpa using a0, ?_⟩
      simp only [if_true, Int.mul_one]
      omega
  refine ⟨_, (c % 2305843009213693951 * 80835 + 11171 * (i : Nat) * (i : Nat) + 1767) % 2305843009213693921, ⟨(aok (decide (10 ^ 18 ≤ ((c.natAbs : Nat) : Int)))).1, (aok _).2, Int.emod_nonneg _ (by omega), Int.lt_of_lt_of_le (Int.emod_lt_of_pos _ (by omega)) (by decide)⟩, ?_⟩
  have b : b__law_pot [some (.scr (ns.map P.int)), some (.int (i : Nat)), none, none, none] h = .rt (.obj h.length) (h ++ [.lst [.int ((((c.natAbs : Nat) : Int) % bigM) * (if (decide (10 ^ 18 ≤ ((c.natAbs : Nat) : Int))) then 1 else 0)), .int ((c % 2305843009213693951 * 80835 + 11171 * (i : Nat) * (i : Nat) + 1767) % 2305843009213693921), .int 0]]) := by
    unfold b__law_pot
    rw [sQ_at, sA_at, ec]
    simp only [Out.toS_ok, gN_at, OutS.seq_nx, sQ_at, sA_at, eB_at, eCB_at, lC_at, lN_at, eC_at, pow60, pow300, pow18, Out.bind_ok, f_abs, f_int_int, List.set, eV_some (i := 2) (t := [some (.scr (ns.map P.int)), some (.int (i : Nat)), some (.int c), none, none]) rfl, vm, eCmp_at, cmp_ge, f_int_bl, m1]
    simp [m2, mi, mii]
  show mkFn _ b__law_pot _ h = _
  unfold mkFn
  have e : ([P.scr (ns.map P.int), .int (i : Nat)].map some ++ List.replicate (N__law_pot.length - [P.scr (ns.map P.int), .int (i : Nat)].length) none) = [some (.scr (ns.map P.int)), some (.int (i : Nat)), none, none, none] := rfl
  rw [e, b]
  show Out.ok (P.obj h.length) (trim h (.obj h.length) _) = _
  unfold trim
  rw [if_neg]
  rintro ⟨z, _⟩
  have z : decide (h.length < h.length) = true := z
  have := of_decide_eq_true z
  omega
end
end K14


/-! draws, on -/
namespace K14
open PySem PySem.Spec PyProof.Rows L2 AM
noncomputable section
theorem item_at {h : AH} {n : Nat} {xs : List P} {i : Int} {p : P} (e : h[n]? = some (.lst xs)) (g : atI xs i = some p) : itemP (.obj n) (.int i) h = .ok p h := by
  have d : isDct h (.obj n) = false := by
    show (match h[n]? with
      | some (.dct _) => true
      | _ => false) = false
    rw [e]
  unfold itemP
  rw [if_neg (by rw [d]; decide)]
  have l : lstOf h (.obj n) = some xs := by
    show (match h[n]? with
      | some (.lst xs) => some xs
      | _ => none) = some xs
    rw [e]
  show (match lstOf h (.obj n) with
    | some xs => (match atI xs i with
      | some p => Out.ok p h
      | none => .bad)
    | none => .bad) = _
  rw [l]
  dsimp only
  rw [g]
theorem put_lst {h : AH} {n : Nat} {xs : List P} {i : Int} {p : P} {j : Nat} (e : h[n]? = some (.lst xs)) (g : ixN xs.length i = some j) : setItemP (.obj n) (.int i) p h = some (h.set n (.lst (xs.set j p))) := by
  unfold setItemP
  dsimp only
  rw [e]
  dsimp only
  rw [g]
  rfl
theorem pow3 {x : Int} (h : AH) (l : x.natAbs < 2 ^ 250) : vPow (.int x) (.int 3) h = .ok (.int (x ^ 3)) h := by
  show (if powOk x 3 = true then Out.ok (P.int (x ^ 3)) h else .bad) = _
  rw [if_pos]
  have z := intBits_le_iff.mpr l
  show (decide ((0 : Int) ≤ 3) && decide ((Builtin.Int.intBits x : Int) * 3 ≤ 2 ^ 27)) = true
  rw [decide_eq_true (by decide), decide_eq_true (by omega)]
  rfl
/-- what a pot holds -/
structure PotAt (h : AH) (n : Nat) (a b t : Int) : Prop extends PotOk a b where
  at_ : h[n]? = some (.lst [.int a, .int b, .int t])
  t0 : 0 ≤ t
  t1 : t ≤ 1000000
def potO (a b t : Int) : O := .lst [.int a, .int b, .int t]
theorem p_take {h : AH} {n : Nat} {a b t : Int} (Q : PotAt h n a b t) (tl : t < 1000000) {u : Nat} (u0 : 0 < u) (u1 : u < 2 ^ 60) :
    ∃ (d : Nat) (a' t' : Int), d < u ∧ PotOk a' b ∧ 0 ≤ t' ∧ t' ≤ t + 1 ∧ m__law_take [.obj n, .int (u : Nat)] h = .ok (.int (d : Nat)) (h.set n (potO a' b t')) := by
  have i0 := item_at (i := 0) (p := .int a) Q.at_ rfl
  have u2 : (0 : Int) < (u : Int) := by omega
  by_cases c : 0 < a
  · have d0 : 0 ≤ a % (u : Int) := Int.emod_nonneg _ (by omega)
    have d1 : a % (u : Int) < (u : Int) := Int.emod_lt_of_pos _ u2
    refine ⟨(a % (u : Int)).toNat, a / (u : Int), t, by omega, ⟨Int.ediv_nonneg Q.a0 (by omega), Int.lt_of_le_of_lt (Int.ediv_le_self _ Q.a0) Q.a1, Q.b0, Q.b1⟩, Q.t0, by omega, ?_⟩
    refine fn_set (j := []) ?_ rfl rfl
    have st := put_lst (i := 0) (p := .int (a / (u : Int))) Q.at_ rfl
    have vd := v_div (i := a) (j := (u : Int)) h u2 (Nat.lt_of_lt_of_le (log2_lt (b := 60) (by omega) (by omega)) (by omega))
    have tn : (((a % (u : Int)).toNat : Nat) : Int) = a % (u : Int) := by omega
    unfold b__law_take
    simp [i0, c, v_mod h u2, vd, st, tn]
    rfl
  · have i2 := item_at (i := 2) (p := .int t) Q.at_ rfl
    have st := put_lst (i := 2) (p := .int (t + 1)) Q.at_ rfl
    have st2 : setItemP (.obj n) (.int 2) (.int (t + 1)) h = some (h.set n (potO a b (t + 1))) := st
    have Q1 : (h.set n (potO a b (t + 1)))[n]? = some (.lst [.int a, .int b, .int (t + 1)]) := by
      rw [List.getElem?_set_self (List.getElem?_eq_some_iff.mp Q.at_).1]
      rfl
    have j1 := item_at (i := 1) (p := .int b) Q1 rfl
    have j2 := item_at (i := 2) (p := .int (t + 1)) Q1 rfl
    have t0 := Q.t0
    have b0 := Q.b0
    have b1 := Q.b1
    have pr : ∃ q : Int, 1 ≤ q ∧ q < 2147483648 ∧ atI [P.int 2147483647, .int 2147483629, .int 2147483587, .int 2147483579, .int 2147483563] ((t + 1) % 5) = some (.int q) := by
      have z : (t + 1) % 5 = 0 ∨ (t + 1) % 5 = 1 ∨ (t + 1) % 5 = 2 ∨ (t + 1) % 5 = 3 ∨ (t + 1) % 5 = 4 := by omega
      rcases z with z | z | z | z | z <;> rw [z] <;> exact ⟨_, by decide, by decide, rfl⟩
    obtain ⟨q, q0, q1, eq⟩ := pr
    have tb : (t + 1).natAbs < 2 ^ 200 := Nat.lt_of_le_of_lt (show (t + 1).natAbs ≤ 1000000 by omega) (by decide)
    have ml : ∀ (k x : Int) (hh : AH), k.natAbs < 2 ^ 200 → x.natAbs < 2 ^ 250 → vMul (.int k) (.int x) hh = .ok (.int (k * x)) hh := fun k x hh l1 l2 => vmul_lt (lt_2000 l1 (by omega)) (lt_2000 l2 (by omega))
    have tt : 0 ≤ (t + 1) * (t + 1) ∧ (t + 1) * (t + 1) ≤ 1000000 * 1000000 := ⟨Int.mul_nonneg (by omega) (by omega), Int.mul_le_mul (by omega) (by omega) (by omega) (by omega)⟩
    have m1 : ∀ hh, vMul (.int 104795) (.int (t + 1)) hh = .ok (.int (104795 * (t + 1))) hh := fun hh => ml _ _ _ (by decide) (Nat.lt_of_lt_of_le tb (Nat.pow_le_pow_right (by omega) (by omega)))
    have m2 : ∀ hh, vMul (.int (104795 * (t + 1))) (.int (t + 1)) hh = .ok (.int (104795 * (t + 1) * (t + 1))) hh := fun hh => ml _ _ _ (Nat.lt_of_le_of_lt (show (104795 * (t + 1)).natAbs ≤ 1000000000000000 by omega) (by decide)) (Nat.lt_of_lt_of_le tb (Nat.pow_le_pow_right (by omega) (by omega)))
    have xb : 0 ≤ b + 104795 * (t + 1) * (t + 1) + 2133 ∧ b + 104795 * (t + 1) * (t + 1) + 2133 < 2 ^ 62 + 1000000000000000000000 := by
      rw [Int.mul_assoc]
      omega
    have p3 : ∀ hh, vPow (.int (b + 104795 * (t + 1) * (t + 1) + 2133)) (.int 3) hh = .ok (.int ((b + 104795 * (t + 1) * (t + 1) + 2133) ^ 3)) hh := fun hh => pow3 hh (Nat.lt_of_le_of_lt (show (b + 104795 * (t + 1) * (t + 1) + 2133).natAbs ≤ 2 ^ 62 + 1000000000000000000000 by omega) (by decide))
    have g0 : 0 ≤ (b + 104795 * (t + 1) * (t + 1) + 2133) ^ 3 % q := Int.emod_nonneg _ (by omega)
    have g1 : (b + 104795 * (t + 1) * (t + 1) + 2133) ^ 3 % q < q := Int.emod_lt_of_pos _ (by omega)
    generalize hx : (b + 104795 * (t + 1) * (t + 1) + 2133) ^ 3 = x at p3 g0 g1
    have m3 : ∀ hh, vMul (.int 1111) (.int (t + 1)) hh = .ok (.int (1111 * (t + 1))) hh := fun hh => ml _ _ _ (by decide) (Nat.lt_of_lt_of_le tb (Nat.pow_le_pow_right (by omega) (by omega)))
    have k0 : 0 ≤ x % q % 12519 := Int.emod_nonneg _ (by decide)
    have k1 : x % q % 12519 < 12519 := Int.emod_lt_of_pos _ (by decide)
    have m4 : ∀ hh, vMul (.int (x % q)) (.int (x % q % 12519 + 1111 * (t + 1))) hh = .ok (.int (x % q * (x % q % 12519 + 1111 * (t + 1)))) hh := fun hh => ml _ _ _ (Nat.lt_of_le_of_lt (show (x % q).natAbs ≤ 2147483648 by omega) (by decide)) (Nat.lt_of_le_of_lt (show (x % q % 12519 + 1111 * (t + 1)).natAbs ≤ 1000000000000000 by omega) (by decide))
    have f0 : 0 ≤ (x % q * (x % q % 12519 + 1111 * (t + 1))) % 2305843009213693907 / 167 % (u : Int) := Int.emod_nonneg _ (by omega)
    have f1 : (x % q * (x % q % 12519 + 1111 * (t + 1))) % 2305843009213693907 / 167 % (u : Int) < (u : Int) := Int.emod_lt_of_pos _ u2
    refine ⟨((x % q * (x % q % 12519 + 1111 * (t + 1))) % 2305843009213693907 / 167 % (u : Int)).toNat, a, t + 1, by omega, Q.toPotOk, by omega, by omega, ?_⟩
    have tn : ((((x % q * (x % q % 12519 + 1111 * (t + 1))) % 2305843009213693907 / 167 % (u : Int)).toNat : Nat) : Int) = (x % q * (x % q % 12519 + 1111 * (t + 1))) % 2305843009213693907 / 167 % (u : Int) := by omega
    refine fn_set (j := []) ?_ rfl rfl
    have vq : ∀ y hh, vMod (.int y) (.int q) hh = .ok (.int (y % q)) hh := fun y hh => v_mod hh (by omega)
    have vu : ∀ y hh, vMod (.int y) (.int (u : Nat)) hh = .ok (.int (y % (u : Int))) hh := fun y hh => v_mod hh u2
    have vd : ∀ y hh, vDiv (.int y) (.int 167) hh = .ok (.int (y / 167)) hh := fun y hh => v_div hh (by decide) (by decide)
    have a0 : a ≤ 0 := by omega
    unfold b__law_take
    simp [i0, c, i2, st2, j1, j2, eq, m1, m2, p3, hx, vq, m3, m4, vd, vu, tn]
end
end K14


/-! several things drawn -/
namespace K14
open PySem PySem.Spec PyProof.Rows L2 AM
noncomputable section
theorem pop_at {h : AH} {n : Nat} {xs : List P} {d : Nat} {p : P} (e : h[n]? = some (.lst xs)) (g : xs[d]? = some p) (l : xs.length ≤ 1000) : mPop (.obj n) [.int (d : Nat)] h = .ok p (h.set n (.lst (xs.eraseIdx d))) := by
  have z : objL h (.obj n) = some (n, xs) := by
    show (match h[n]? with
      | some (.lst xs) => some (n, xs)
      | _ => none) = _
    rw [e]
  have dl := (List.getElem?_eq_some_iff.mp g).1
  have s : seqIndex? (d : Int) xs.length = some d := by
    unfold seqIndex?
    simp
    omega
  unfold mPop
  rw [z]
  dsimp only
  rw [if_pos (by omega), s]
  dsimp only
  rw [g]
theorem perm_erase {α : Type} : ∀ (l : List α) (d : Nat) (h : d < l.length), (l[d] :: l.eraseIdx d).Perm l
  | x :: l, 0, _ => List.Perm.refl _
  | x :: l, d + 1, h => by
    have h' : d < l.length := Nat.lt_of_succ_lt_succ h
    show (l[d] :: x :: l.eraseIdx d).Perm (x :: l)
    exact (List.Perm.swap x l[d] _).trans (List.Perm.cons x (perm_erase l d h'))
theorem map_erase {α β : Type} (f : α → β) : ∀ (l : List α) (d : Nat), (l.map f).eraseIdx d = (l.eraseIdx d).map f
  | [], _ => rfl
  | x :: l, 0 => rfl
  | x :: l, d + 1 => by
    show f x :: (l.map f).eraseIdx d = f x :: (l.eraseIdx d).map f
    rw [map_erase f l d]
theorem p_some {α : Type} (f : α → P) (hf : ∀ x, clean 0 (f x) = true) {h : AH} {n : Nat} {a b t : Int} (Q : PotAt h n a b t) {xs : List α} {pool : P} (hp : seqOf h pool = some (xs.map f)) (lx : xs.length ≤ 1000) {many : Nat} (lm : many ≤ xs.length) (tl : t + (many : Nat) ≤ 1000000) :
    ∃ (ys rest : List α) (a' t' : Int), (ys ++ rest).Perm xs ∧ ys.length = many ∧ PotOk a' b ∧ 0 ≤ t' ∧ t' ≤ t + (many : Nat) ∧ m__law_some [.obj n, pool, .int (many : Nat)] h = .ok (.obj (h.length + 1)) (h.set n (potO a' b t') ++ [O.lst (rest.map f), .lst (ys.map f)]) := by
  have nl := (List.getElem?_eq_some_iff.mp Q.at_).1
  have step := fun (i0 : _) => for_run (xs := (rgS 0 (many : Int)).xs) (t := [some (.obj n), some pool, some (.int (many : Nat)), some (.obj h.length), some (.obj (h.length + 1)), none]) (h := h ++ [O.lst (xs.map f), .lst []]) (S := rgS 0 (many : Int)) (h0 := h ++ [O.lst (xs.map f), .lst []]) (g := gN 5) (b := sE (eBM "list" mAppend (eV 4) (lC (eBM "list" mPop (eV 3) (lC (eCall 2 m__law_take (lC (eV 0) (lC (eCB fLen (lC (eV 3) lN)) lN))) lN)) lN)))
    (fun ps T H => ∃ (ys rest : List α) (a' t' : Int) (x : Option P), (ys ++ rest).Perm xs ∧ ys.length + ps.length = many ∧ PotOk a' b ∧ 0 ≤ t' ∧ t' ≤ t + (ys.length : Nat) ∧ H = h.set n (potO a' b t') ++ [O.lst (rest.map f), .lst (ys.map f)] ∧ T = [some (.obj n), some pool, some (.int (many : Nat)), some (.obj h.length), some (.obj (h.length + 1)), x])
    (fun _ _ _ _ => by unfold Src.still; rw [show (rgS 0 (many : Int)).w = [] from rfl]; simp)
    (fun p ps T H ⟨ys, rest, a', t', x, pm, ln, ok, t0, t1, eH, eT⟩ => by
      subst eH eT
      have ll := pm.length_eq
      rw [List.length_append] at ll
      have ln2 : ys.length + (ps.length + 1) = many := ln
      have at1 : (h.set n (potO a' b t') ++ [O.lst (rest.map f), .lst (ys.map f)])[n]? = some (.lst [.int a', .int b, .int t']) := by
        rw [List.getElem?_append_left (by simpa using nl), List.getElem?_set_self nl]
        rfl
      have Q1 : PotAt (h.set n (potO a' b t') ++ [O.lst (rest.map f), .lst (ys.map f)]) n a' b t' := ⟨ok, at1, t0, by omega⟩
      obtain ⟨d, a2, t2, dl, ok2, t20, t21, et⟩ := p_take Q1 (by omega) (u := rest.length) (by omega) (Nat.lt_of_le_of_lt (show rest.length ≤ 1000 by omega) (by decide))
      have hs : ∀ o, (h.set n (potO a' b t') ++ [O.lst (rest.map f), .lst (ys.map f)]).set n o = h.set n o ++ [O.lst (rest.map f), .lst (ys.map f)] := fun o => by
        rw [List.set_append_left _ _ (by simpa using nl), List.set_set]
      rw [hs] at et
      have lr : ∀ o (r1 r2 : List P), (h.set n o ++ [O.lst r1, .lst r2])[h.length]? = some (.lst r1) := fun o r1 r2 => by simp
      have lf : ∀ o (r1 r2 : List P), (h.set n o ++ [O.lst r1, .lst r2])[h.length + 1]? = some (.lst r2) := fun o r1 r2 => by simp
      have pp := pop_at (d := d) (p := f rest[d]) (lr (potO a2 b t2) (rest.map f) (ys.map f)) (by rw [List.getElem?_map, List.getElem?_eq_getElem dl]; rfl) (by rw [List.length_map]; omega)
      have s1 : (h.set n (potO a2 b t2) ++ [O.lst (rest.map f), .lst (ys.map f)]).set h.length (.lst ((rest.map f).eraseIdx d)) = h.set n (potO a2 b t2) ++ [O.lst ((rest.map f).eraseIdx d), .lst (ys.map f)] := by
        rw [List.set_append_right _ _ (by simp)]
        simp
      rw [s1] at pp
      have ap := append_at (y := f rest[d]) (lf (potO a2 b t2) ((rest.map f).eraseIdx d) (ys.map f)) (by rw [List.length_map]; omega)
      have s2 : (h.set n (potO a2 b t2) ++ [O.lst ((rest.map f).eraseIdx d), .lst (ys.map f)]).set (h.length + 1) (.lst (ys.map f ++ [f rest[d]])) = h.set n (potO a2 b t2) ++ [O.lst ((rest.map f).eraseIdx d), .lst (ys.map f ++ [f rest[d]])] := by
        rw [List.set_append_right _ _ (by simp)]
        simp
      rw [s2] at ap
      have ln1 := len_lst (lr (potO a' b t') (rest.map f) (ys.map f))
      rw [List.length_map] at ln1
      have ty1 := isTy_at (lf (potO a' b t') (rest.map f) (ys.map f))
      have ty2 := isTy_at (lr (potO a' b t') (rest.map f) (ys.map f))
      refine ⟨_, _, [some (.obj n), some pool, some (.int (many : Nat)), some (.obj h.length), some (.obj (h.length + 1)), some p], h.set n (potO a2 b t2) ++ [O.lst ((rest.map f).eraseIdx d), .lst (ys.map f ++ [f rest[d]])], rfl, .inl ?_, ys ++ [rest[d]], rest.eraseIdx d, a2, t2, some p, ?_, ?_, ok2, t20, ?_, ?_, rfl⟩
      · show sE _ [some (.obj n), some pool, some (.int (many : Nat)), some (.obj h.length), some (.obj (h.length + 1)), some p] _ = _
        simp only [sE_at, eBM_at, lC_at, lN_at, eCall_at, eCB_at, eV_some (i := 4) (t := [some (.obj n), some pool, some (.int (many : Nat)), some (.obj h.length), some (.obj (h.length + 1)), some p]) rfl, eV_some (i := 3) (t := [some (.obj n), some pool, some (.int (many : Nat)), some (.obj h.length), some (.obj (h.length + 1)), some p]) rfl, eV_some (i := 0) (t := [some (.obj n), some pool, some (.int (many : Nat)), some (.obj h.length), some (.obj (h.length + 1)), some p]) rfl, Out.bind_ok, ty1, ty2, if_true, ln1, List.length_cons, List.length_nil, et, pp, ap, Out.toS_ok]
      · refine List.Perm.trans ?_ pm
        rw [List.append_assoc]
        refine List.Perm.append_left _ ?_
        show (rest[d] :: rest.eraseIdx d).Perm rest
        exact perm_erase rest d dl
      · rw [List.length_append]
        simp only [List.length_cons, List.length_nil]
        omega
      · rw [List.length_append]
        simp only [List.length_cons, List.length_nil]
        omega
      · rw [List.map_append, map_erase]
        rfl) i0
  obtain ⟨T2, H2, ⟨ys, rest, a', t', x, pm, ln, ok, t0, t1, eH, eT⟩, ef⟩ := step ⟨[], xs, a, t, none, List.Perm.refl _, by show _ + ((List.range _).map _).length = _; rw [List.length_map, List.length_range]; simp, Q.toPotOk, Q.t0, by simp, by
      have z : h.set n (potO a b t) = h := by
        have y := Q.at_
        obtain ⟨l, y⟩ := List.getElem?_eq_some_iff.mp y
        rw [show potO a b t = h[n] from y.symm, List.set_getElem_self]
      rw [z]
      rfl, rfl⟩
  refine ⟨ys, rest, a', t', pm, by simpa using ln, ok, t0, by simp at ln; omega, ?_⟩
  subst eH eT
  have bd : b__law_some [some (.obj n), some pool, some (.int (many : Nat)), none, none, none] h = .rt (.obj (h.length + 1)) (h.set n (potO a' b t') ++ [O.lst (rest.map f), .lst (ys.map f)]) := by
    have fl : fList true [pool] h = .ok (.obj h.length) (h ++ [O.lst (xs.map f)]) := by
      show (match seqOf h pool with
        | some xs => mkL true xs h
        | none => _) = _
      rw [hp]
      rfl
    have rg : srcR1 [.int (many : Nat)] (h ++ [O.lst (xs.map f), .lst []]) = .ok (rgS 0 (many : Int)) (h ++ [O.lst (xs.map f), .lst []]) := by
      show (if fitI (many : Int) = true then Out.ok (rgS 0 (many : Int)) (h ++ [O.lst (xs.map f), .lst []]) else .bad) = _
      rw [if_pos (by unfold fitI; rw [decide_eq_true (by omega), decide_eq_true (by omega)]; rfl)]
    unfold b__law_some
    have v1 : eV 1 [some (.obj n), some pool, some (.int (many : Nat)), none, none, none] h = .ok pool h := eV_some rfl
    have v2 : ∀ hh, eV 2 [some (.obj n), some pool, some (.int (many : Nat)), some (.obj h.length), some (.obj (h.length + 1)), none] hh = .ok (.int (many : Nat)) hh := fun hh => eV_some rfl
    have v4 : ∀ hh y, eV 4 [some (.obj n), some pool, some (.int (many : Nat)), some (.obj h.length), some (.obj (h.length + 1)), y] hh = .ok (.obj (h.length + 1)) hh := fun hh y => eV_some rfl
    have sp : sPar 3 4 (lC (eCB (fList true) (lC (eV 1) lN)) (lC (eLst true lN) lN)) [some (.obj n), some pool, some (.int (many : Nat)), none, none, none] h = .nx [some (.obj n), some pool, some (.int (many : Nat)), some (.obj h.length), some (.obj (h.length + 1)), none] (h ++ [O.lst (xs.map f), .lst []]) := by
      rw [sPar_at, lC_at, eCB_at, lC_at, v1]
      simp only [Out.bind_ok, lN_at, fl, lC_at, eLst_at]
      rw [if_pos (show small ([] : List P).length = true from rfl), mkL_true]
      show OutS.nx [some (.obj n), some pool, some (.int (many : Nat)), some (.obj h.length), some (.obj (h ++ [O.lst (xs.map f)]).length), none] (h ++ [O.lst (xs.map f)] ++ [O.lst []]) = _
      rw [List.length_append, List.append_assoc]
      rfl
    rw [sQ_at, sp]
    rw [OutS.seq_nx, sQ_at, sFor_at]
    rw [show iRg1 (lC (eV 2) lN) [some (.obj n), some pool, some (.int (many : Nat)), some (.obj h.length), some (.obj (h.length + 1)), none] (h ++ [O.lst (xs.map f), .lst []]) = .ok (rgS 0 (many : Int)) (h ++ [O.lst (xs.map f), .lst []]) by
      rw [iRg1_at, lC_at, v2, Out.bind_ok, lN_at, Out.bind_ok, Out.bind_ok, rg]]
    rw [Out.toS_ok, ef, OutS.seq_nx, sR_at, v4]
    rfl
  show mkFn _ b__law_some _ h = _
  unfold mkFn
  have e : ([P.obj n, pool, .int (many : Nat)].map some ++ List.replicate (N__law_some.length - [P.obj n, pool, .int (many : Nat)].length) none) = [some (.obj n), some pool, some (.int (many : Nat)), none, none, none] := rfl
  rw [e, bd]
  show Out.ok (P.obj (h.length + 1)) (trim h (.obj (h.length + 1)) _) = _
  unfold trim
  rw [if_neg]
  rintro ⟨z, _⟩
  have z : decide (h.length + 1 < h.length) = true := z
  have := of_decide_eq_true z
  omega
end
end K14


/-! the law's own fractions -/
namespace K14
open PySem PySem.Spec PyProof.Rows L2 AM
noncomputable section
theorem o_common (a b : Int) (h : AH) : m__law_frac_common [.int a, .int b] h = .ok (.int (Int.gcd a b : Nat)) h := by
  refine fn_rt0 ?_
  unfold b__law_frac_common
  obtain ⟨t2, h2, ⟨x, et, eg, eh⟩, _, ew⟩ := while_run (c := tCp gtP (eV 1) (eC (.int 0))) (b := sPar 0 1 (lC (eV 1) (lC (eB vMod (eCB fInt (lC (eV 0) lN)) (eV 1)) lN))) (fun n t h2 => ∃ x : Nat, t = [some (.int x), some (.int n)] ∧ Nat.gcd x n = Int.gcd a b ∧ h2 = h) (by
    rintro n t h2 ⟨x, rfl, eg, rfl⟩
    by_cases hn : n = 0
    · subst hn
      exact .inl ⟨h2, by simp, rfl, rfl⟩
    · have hp : 0 < n := by omega
      have fi : fInt [.int (x : Nat)] h2 = .ok (.int (x : Nat)) h2 := rfl
      refine .inr ⟨h2, [some (.int (n : Nat)), some (.int ((x % n : Nat) : Int))], h2, x % n, ?_, .inl ?_, Nat.mod_lt _ (by omega), n, rfl, ?_, rfl⟩
      · simp [hp]
      · simp [hp, fi]
      · rw [← eg, Nat.gcd_comm x n, Nat.gcd_rec n x, Nat.gcd_comm]) b.natAbs (t := [some (.int (a.natAbs : Nat)), some (.int (b.natAbs : Nat))]) (h := h) ⟨a.natAbs, rfl, rfl, rfl⟩
  simp at ew ⊢
  rw [ew]
  subst et eh
  simp at eg ⊢
  rw [eg]
theorem o_frac (a b : Int) (h : AH) (hb : 0 < b) (l : b.natAbs < 2 ^ 8999) : m__law_frac [.int a, .int b] h = .ok (ratP (fr a b)) h := by
  have g0 : 0 < Int.gcd a b := Int.gcd_pos_of_ne_zero_right _ (by omega)
  have gl : (Int.gcd a b) ≤ b.natAbs := Int.gcd_le_natAbs_right _ (by omega)
  have g1 : (0 : Int) < (Int.gcd a b : Nat) := by omega
  have g2 : ((Int.gcd a b : Nat) : Int).natAbs.log2 < 9000 := by
    have := log2_le (n := Int.gcd a b) (b := 8999) (by omega)
    rw [Int.natAbs_natCast]
    omega
  refine fn_rt0 ?_
  unfold b__law_frac
  simp [o_common, hb, v_div _ g1 g2]
  rfl
theorem o_plus {n m : Nat} {x y : Fr} (h : AH) (hx : FrOk n x) (hy : FrOk m y) (l : n + m < 8999) : m__law_frac_plus [ratP x, ratP y] h = .ok (ratP (plusF x y)) h := by
  refine fn_rt0 ?_
  unfold b__law_frac_plus
  have e1 := mulOk_of hx.top hy.bot (by omega)
  have e2 := mulOk_of hy.top hx.bot (by omega)
  have e3 := mulOk_of hx.bot hy.bot (by omega)
  have e4 : (x.2 * y.2).natAbs < 2 ^ 8999 := by
    rw [Int.natAbs_mul]
    exact Nat.lt_of_lt_of_le (mul_lt hx.bot hy.bot) (Nat.pow_le_pow_right (by omega) (by omega))
  simp [ratP, v_mul _ e1, v_mul _ e2, v_mul _ e3, o_frac _ _ _ (Int.mul_pos hx.pos hy.pos) e4]
  exact ⟨rfl, rfl⟩
theorem o_less {n m : Nat} {x y : Fr} (h : AH) (hx : FrOk n x) (hy : FrOk m y) (l : n + m < 8999) : m__law_frac_less [ratP x, ratP y] h = .ok (ratP (lessF x y)) h := by
  refine fn_rt0 ?_
  unfold b__law_frac_less
  have e1 := mulOk_of hx.top hy.bot (by omega)
  have e2 := mulOk_of hy.top hx.bot (by omega)
  have e3 := mulOk_of hx.bot hy.bot (by omega)
  have e4 : (x.2 * y.2).natAbs < 2 ^ 8999 := by
    rw [Int.natAbs_mul]
    exact Nat.lt_of_lt_of_le (mul_lt hx.bot hy.bot) (Nat.pow_le_pow_right (by omega) (by omega))
  simp [ratP, v_mul _ e1, v_mul _ e2, v_mul _ e3, o_frac _ _ _ (Int.mul_pos hx.pos hy.pos) e4]
  exact ⟨rfl, rfl⟩
theorem o_times {n m : Nat} {x y : Fr} (h : AH) (hx : FrOk n x) (hy : FrOk m y) (l : n + m < 8999) : m__law_frac_times [ratP x, ratP y] h = .ok (ratP (timesF x y)) h := by
  refine fn_rt0 ?_
  unfold b__law_frac_times
  have e1 := mulOk_of hx.top hy.top (by omega)
  have e3 := mulOk_of hx.bot hy.bot (by omega)
  have e4 : (x.2 * y.2).natAbs < 2 ^ 8999 := by
    rw [Int.natAbs_mul]
    exact Nat.lt_of_lt_of_le (mul_lt hx.bot hy.bot) (Nat.pow_le_pow_right (by omega) (by omega))
  simp [ratP, v_mul _ e1, v_mul _ e3, o_frac _ _ _ (Int.mul_pos hx.pos hy.pos) e4]
  exact ⟨rfl, rfl⟩
theorem o_row_plus {n m : Nat} {r s : List Fr} (h : AH) (hr : RowOk n r) (hs : RowOk m s) (l : n + m < 8999) (L : r.length ≤ 1000) : m__law_row_plus [rowP r, rowP s] h = .ok (rowP (rowPlus r s)) h := by
  refine fn_rt0 ?_
  unfold b__law_row_plus
  simp [rowP, eLc_at, zipP_map]
  rw [lc_map0 _ (fun z => ratP (plusF z.1 z.2))]
  · simp [rowPlus, zipF, Function.comp_def]
  · simp
    omega
  · rintro ⟨x, y⟩ hxy hh
    have hm := List.of_mem_zip hxy
    exact ⟨_, by simp; rfl, by simp [o_plus _ (hr x hm.1) (hs y hm.2) l], rfl⟩
theorem o_row_less {n m : Nat} {r s : List Fr} (h : AH) (hr : RowOk n r) (hs : RowOk m s) (l : n + m < 8999) (L : r.length ≤ 1000) : m__law_row_less [rowP r, rowP s] h = .ok (rowP (rowLess r s)) h := by
  refine fn_rt0 ?_
  unfold b__law_row_less
  simp [rowP, eLc_at, zipP_map]
  rw [lc_map0 _ (fun z => ratP (lessF z.1 z.2))]
  · simp [rowLess, zipF, Function.comp_def]
  · simp
    omega
  · rintro ⟨x, y⟩ hxy hh
    have hm := List.of_mem_zip hxy
    exact ⟨_, by simp; rfl, by simp [o_less _ (hr x hm.1) (hs y hm.2) l], rfl⟩
theorem o_row_times {n m : Nat} {r : List Fr} {b : Fr} (h : AH) (hr : RowOk n r) (hb : FrOk m b) (l : n + m < 8999) (L : r.length ≤ 1000) : m__law_row_times [rowP r, ratP b] h = .ok (rowP (rowTimes r b)) h := by
  refine fn_rt0 ?_
  unfold b__law_row_times
  simp [rowP, eLc_at]
  rw [lc_map0 _ (fun z => ratP (timesF z b))]
  · simp [rowTimes, Function.comp_def]
  · omega
  · rintro x hx hh
    exact ⟨_, by simp; rfl, by simp [o_times _ (hr x hx) hb l], rfl⟩
/-! pots -/
end
end K14


/-! draws -/
namespace K14
open PySem PySem.Spec PyProof.Rows L2 AM
noncomputable section
theorem cup_take {h : AH} {n : Nat} {o : O} {T : Nat} (e : h[n]? = some o) (c : Cup T o) (l : T < 1000000) {u : Nat} (u0 : 0 < u) (u1 : u < 2 ^ 60) :
    ∃ (d : Nat) (o' : O), d < u ∧ Cup (T + 1) o' ∧ m__law_take [.obj n, .int (u : Nat)] h = .ok (.int (d : Nat)) (h.set n o') := by
  obtain ⟨a, b, t, rfl, ha, hb, h0, h1⟩ := c
  have Q : PotAt h n a b t := ⟨⟨ha.1, ha.2, hb.1, hb.2⟩, e, h0, by omega⟩
  obtain ⟨d, a', t', hd, ok, z0, z1, z⟩ := p_take Q (by omega) u0 u1
  exact ⟨d, potO a' b t', hd, ⟨a', b, t', rfl, ⟨ok.a0, ok.a1⟩, hb, z0, by omega⟩, z⟩
theorem cup_some {α : Type} (f : α → P) (hf : ∀ x, clean 0 (f x) = true) {h : AH} {n : Nat} {o : O} {T : Nat} (e : h[n]? = some o) (c : Cup T o) {xs : List α} {pool : P} (hp : seqOf h pool = some (xs.map f)) (lx : xs.length ≤ 1000) {many : Nat} (lm : many ≤ xs.length) (l : T + many ≤ 1000000) :
    ∃ (ys rest : List α) (o' : O), (ys ++ rest).Perm xs ∧ ys.length = many ∧ Cup (T + many) o' ∧ m__law_some [.obj n, pool, .int (many : Nat)] h = .ok (.obj (h.length + 1)) (h.set n o' ++ [O.lst (rest.map f), .lst (ys.map f)]) := by
  obtain ⟨a, b, t, rfl, ha, hb, h0, h1⟩ := c
  have Q : PotAt h n a b t := ⟨⟨ha.1, ha.2, hb.1, hb.2⟩, e, h0, by omega⟩
  obtain ⟨ys, rest, a', t', pm, ly, ok, z0, z1, z⟩ := p_some f hf Q hp lx lm (by omega)
  exact ⟨ys, rest, potO a' b t', pm, ly, ⟨a', b, t', rfl, ⟨ok.a0, ok.a1⟩, hb, z0, by omega⟩, z⟩
theorem cup_pot (ns : List Int) (i : Nat) (hi : i ≤ 63) (h : AH) : ∃ o : O, Cup 0 o ∧ m__law_pot [.scr (ns.map P.int), .int (i : Nat)] h = .ok (.obj h.length) (h ++ [o]) := by
  obtain ⟨a, b, ok, e⟩ := p_pot ns i hi h
  exact ⟨_, ⟨a, b, 0, rfl, ⟨ok.a0, ok.a1⟩, ⟨ok.b0, ok.b1⟩, by decide, by decide⟩, e⟩
theorem mkFn_len {ns : Nat} {b : SM} {xs : List P} {h h' : AH} {p : P} (e : b (xs.map some ++ List.replicate (ns - xs.length) none) h = .rt p h') (l : h'.length = h.length) : mkFn ns b xs h = .ok p h' := by
  unfold mkFn
  rw [e]
  show Out.ok p (trim h p h') = _
  rw [trim_len l]
theorem cup_of {h : AH} {n : Nat} {o : O} {T : Nat} (e : h[n]? = some o) (c : Cup T o) (l : T < 1000000) {xs : List P} (ne : xs ≠ []) (lx : xs.length < 1000000) :
    ∃ (x : P) (o' : O), x ∈ xs ∧ Cup (T + 1) o' ∧ m__law_of [.obj n, .lst xs] h = .ok x (h.set n o') := by
  have l0 : 0 < xs.length := List.length_pos_iff.mpr ne
  obtain ⟨d, o', hd, c', z⟩ := cup_take e c l l0 (by omega)
  refine ⟨xs[d], o', List.getElem_mem hd, c', mkFn_len ?_ (by simp)⟩
  unfold b__law_of
  have ix : atI xs (d : Int) = some xs[d] := by rw [AM.atI_nat, List.getElem?_eq_getElem hd]
  simp [z, ix]
theorem cup_of_obj {h : AH} {n m : Nat} {o : O} {T : Nat} (e : h[n]? = some o) (c : Cup T o) (l : T < 1000000) {xs : List P} (em : h[m]? = some (.lst xs)) (nm : n ≠ m) (ne : xs ≠ []) (lx : xs.length < 1000000) :
    ∃ (x : P) (o' : O), x ∈ xs ∧ Cup (T + 1) o' ∧ m__law_of [.obj n, .obj m] h = .ok x (h.set n o') := by
  have l0 : 0 < xs.length := List.length_pos_iff.mpr ne
  obtain ⟨d, o', hd, c', z⟩ := cup_take e c l l0 (by omega)
  refine ⟨xs[d], o', List.getElem_mem hd, c', mkFn_len ?_ (by simp)⟩
  unfold b__law_of
  have ix : itemP (.obj m) (.int (d : Nat)) (h.set n o') = .ok xs[d] (h.set n o') := item_at ((set_off nm).trans em) (by rw [AM.atI_nat, List.getElem?_eq_getElem hd])
  have ll := len_lst em
  simp [ll, z, ix]
def fracT : List Fr := [(0, 1), (1, 1), (-1, 1), (2, 1), (3, 1), (-2, 1), (1, 2), (4, 1), (-3, 2), (5, 3)]
theorem cup_fraction {h : AH} {n : Nat} {o : O} {T : Nat} (e : h[n]? = some o) (c : Cup T o) (l : T < 1000000) :
    ∃ (x : Fr) (o' : O), x ∈ fracT ∧ Cup (T + 1) o' ∧ m__law_net_fraction [.obj n] h = .ok (ratP x) (h.set n o') := by
  obtain ⟨p, o', hp, c', z⟩ := cup_of e c l (xs := fracT.map ratP) (by decide) (by decide)
  obtain ⟨x, hx, rfl⟩ := List.mem_map.mp hp
  refine ⟨x, o', hx, c', mkFn_len ?_ (by simp)⟩
  unfold b__law_net_fraction
  have z : m__law_of [.obj n, .lst [.tup [.int 0, .int 1], .tup [.int 1, .int 1], .tup [.int (-1), .int 1], .tup [.int 2, .int 1], .tup [.int 3, .int 1], .tup [.int (-2), .int 1], .tup [.int 1, .int 2], .tup [.int 4, .int 1], .tup [.int (-3), .int 2], .tup [.int 5, .int 3]]] h = .ok (ratP x) (h.set n o') := z
  simp [z]
theorem rg_map (k : Nat) : (rgS 0 (k : Int)).xs = (List.range k).map fun i => P.int ((i : Nat) : Int) := by
  unfold rgS
  have e : ((k : Int) - 0).toNat = k := by omega
  rw [e]
  simp
theorem src_rg {k : Nat} (h : AH) (l : k < 1000000) : srcR1 [.int (k : Nat)] h = .ok (rgS 0 (k : Int)) h := by
  have hf : fitI (k : Int) = true := by
    unfold fitI
    rw [decide_eq_true (by omega), decide_eq_true (by omega)]
    rfl
  show (if fitI (k : Int) = true then Out.ok (rgS 0 (k : Int)) h else .bad) = _
  rw [if_pos hf]
theorem cup_spot {h : AH} {n : Nat} {o : O} {T : Nat} (e : h[n]? = some o) (c : Cup T o) {k : Nat} (k3 : k ≤ 3) (l : T + 3 < 1000000) :
    ∃ (r : List Fr) (o' : O), r.length = k ∧ (∀ x ∈ r, x ∈ fracT) ∧ Cup (T + 3) o' ∧ m__law_net_spot [.obj n, .int (k : Nat)] h = .ok (rowP r) (h.set n o') := by
  obtain ⟨r, o', lr, hr, c', z⟩ := lc_pot (S := rgS 0 (k : Int)) (h := h) (n := n) (g := gN 2) (e := eCall 1 m__law_net_fraction (lC (eV 0) lN)) (t := [some (.obj n), some (.int (k : Nat)), none]) (fun i : Nat => P.int ((i : Nat) : Int)) ratP 1 (fun _ => rfl) (fun x => x ∈ fracT) e (fun m hm => by cases hm) (T + 3)
    (ys := List.range k) (acc := []) (o := o) (T := T) (by rw [List.length_range]; omega) c (by rw [List.length_range]; simp; omega)
    (fun y hy acc o1 T1 c1 l1 => by
      have at1 : (h.set n o1 ++ [O.lst acc])[n]? = some o1 := get_app (set_at e)
      obtain ⟨x, o2, hx, c2, z⟩ := cup_fraction at1 c1 (by omega)
      rw [set_app (set_at e), List.set_set] at z
      refine ⟨[some (.obj n), some (.int (k : Nat)), some (.int (y : Nat))], rfl, x, o2, hx, c2, ?_⟩
      simp [z])
  rw [List.length_range] at lr c'
  rw [set_self e, ← rg_map] at z
  refine ⟨r, o', lr, hr, c'.mono (by omega), mkFn_len ?_ (by simp)⟩
  unfold b__law_net_spot
  have v0 : ∀ hh, eV 1 [some (P.obj n), some (.int (k : Nat)), none] hh = .ok (.int (k : Nat)) hh := fun hh => rfl
  have sr := src_rg h (by omega : k < 1000000)
  show sR _ [some (.obj n), some (.int (k : Nat)), none] h = _
  rw [sR_at, eCB_at, lC_at, eLc_at, iRg1_at, lC_at, v0, Out.bind_ok, lN_at, Out.bind_ok, Out.bind_ok, sr, Out.bind_ok, show wipeL [some (P.obj n), some (.int (k : Nat)), none] [2] = [some (.obj n), some (.int (k : Nat)), none] from rfl, z, Out.bind_ok, lN_at, Out.bind_ok, Out.bind_ok, f_tup_lst, Out.toS_ok, List.nil_append]
  rfl
end
end K14


/-! own nets -/
namespace K14
open PySem PySem.Spec PyProof.Rows L2 AM
noncomputable section
def pegT (z : Str × List Fr) : P := .tup [.str z.1, rowP z.2]
def ringT (z : Str × List Fr × List Fr) : P := .tup [.str z.1, rowP z.2.1, rowP z.2.2]
structure OwnAt (h : AH) (k p r c : Nat) (N : NetR) : Prop where
  own : h[k]? = some (.dct [(.inr "coords", .int (N.coords : Nat)), (.inr "pegs", .obj p), (.inr "rings", .obj r), (.inr "cords", .obj c)])
  hp : h[p]? = some (.lst (N.pegs.map pegT))
  hr : h[r]? = some (.lst (N.rings.map ringT))
  hc : h[c]? = some (.lst (N.cords.map pairP))
  pr : p ≠ r
  pc : p ≠ c
  rc : r ≠ c
theorem add_lsts {h : AH} {p q : P} {xs ys : List P} {b : Bool} (e1 : lstOf h p = some xs) (e2 : lstOf h q = some ys) (l : xs.length + ys.length ≤ 16777216) : vAdd b p q h = mkL b (xs ++ ys) h := by
  have z : vAddL b p q h = mkL b (xs ++ ys) h := by
    unfold vAddL
    rw [e1, e2]
    dsimp only
    rw [if_pos (small_true l)]
  have n : (∃ a, p = .lst a) ∨ (∃ a, p = .obj a) := by
    cases p with
    | lst a => exact .inl ⟨a, rfl⟩
    | obj a => exact .inr ⟨a, rfl⟩
    | _ => cases e1
  unfold vAdd orF2
  rcases n with ⟨a, rfl⟩ | ⟨a, rfl⟩ <;> (show vAddL b _ q h = _; exact z)
theorem lstOf_obj {h : AH} {n : Nat} {xs : List P} (e : h[n]? = some (.lst xs)) : lstOf h (.obj n) = some xs := by
  show (match h[n]? with
    | some (.lst xs) => some xs
    | _ => none) = some xs
  rw [e]
theorem lstOf_lst {h : AH} {xs : List P} : lstOf h (.lst xs) = some xs := rfl
theorem src_obj {h : AH} {n : Nat} {xs : List P} (e : h[n]? = some (.lst xs)) : srcSeq (.obj n) h = .ok ⟨xs, [n]⟩ h := by
  show (match h[n]? with
    | some (.lst xs) => Out.ok (Src.mk xs [n]) h
    | _ => .bad) = _
  rw [e]
theorem add_rows {r s : List Fr} {b : Bool} {h : AH} (l : r.length + s.length ≤ 16777216) : vAdd b (rowP r) (rowP s) h = .ok (rowP (r ++ s)) h := by
  have z : vAddT (rowP r) (rowP s) h = .ok (rowP (r ++ s)) h := by
    show (if small ((r.map ratP).length + (s.map ratP).length) = true then Out.ok (P.tup (r.map ratP ++ s.map ratP)) h else .bad) = _
    rw [List.length_map, List.length_map, if_pos (small_true l), ← List.map_append]
    rfl
  unfold vAdd orF2
  show (match (match vAddT (rowP r) (rowP s) h with
    | .bad => vAddL b (rowP r) (rowP s) h
    | o => o : Out P) with
    | o => o : Out P) = _
  rw [z]
section
variable {h : AH} {k p r c n : Nat} {N : NetR} {o : O} {T : Nat}
theorem OwnAt.app {j : AH} (D : OwnAt h k p r c N) : OwnAt (h ++ j) k p r c N := ⟨get_app D.own, get_app D.hp, get_app D.hr, get_app D.hc, D.pr, D.pc, D.rc⟩
theorem OwnAt.off (D : OwnAt h k p r c N) (e : h[n]? = some o) (cu : Cup T o) : n ≠ k ∧ n ≠ p ∧ n ≠ r ∧ n ≠ c := by
  refine ⟨fun z => ?_, fun z => ?_, fun z => ?_, fun z => ?_⟩ <;> subst z
  · exact cu.not_dct (Option.some.inj (e.symm.trans D.own))
  · exact cu.not_tups (f := fun z : Str × List Fr => [.str z.1, rowP z.2]) (Option.some.inj (e.symm.trans D.hp))
  · exact cu.not_tups (f := fun z : Str × List Fr × List Fr => [.str z.1, rowP z.2.1, rowP z.2.2]) (Option.some.inj (e.symm.trans D.hr))
  · exact cu.not_tups (f := fun z : Str × Str => [.str z.1, .str z.2]) (Option.some.inj (e.symm.trans D.hc))
theorem OwnAt.set (D : OwnAt h k p r c N) (e : h[n]? = some o) (cu : Cup T o) (o' : O) : OwnAt (h.set n o') k p r c N := by
  obtain ⟨a1, a2, a3, a4⟩ := D.off e cu
  exact ⟨(set_off a1).trans D.own, (set_off a2).trans D.hp, (set_off a3).trans D.hr, (set_off a4).trans D.hc, D.pr, D.pc, D.rc⟩
theorem ks_ne : ("coords" : Str) ≠ "pegs" ∧ ("coords" : Str) ≠ "rings" ∧ ("coords" : Str) ≠ "cords" ∧ ("pegs" : Str) ≠ "rings" ∧ ("pegs" : Str) ≠ "cords" ∧ ("rings" : Str) ≠ "cords" := by decide +kernel
theorem own_coords (D : OwnAt h k p r c N) : itemP (.obj k) (.str "coords") h = .ok (.int (N.coords : Nat)) h := item_dct D.own (by simp [getP])
theorem own_pegs (D : OwnAt h k p r c N) : itemP (.obj k) (.str "pegs") h = .ok (.obj p) h := item_dct D.own (by
  obtain ⟨n1, n2, n3, n4, n5, n6⟩ := ks_ne
  simp [getP, n1])
theorem own_rings (D : OwnAt h k p r c N) : itemP (.obj k) (.str "rings") h = .ok (.obj r) h := item_dct D.own (by
  obtain ⟨n1, n2, n3, n4, n5, n6⟩ := ks_ne
  simp [getP, n2, n4])
theorem own_cords (D : OwnAt h k p r c N) : itemP (.obj k) (.str "cords") h = .ok (.obj c) h := item_dct D.own (by
  obtain ⟨n1, n2, n3, n4, n5, n6⟩ := ks_ne
  simp [getP, n3, n5, n6])
/-- rows of pegs and rings -/
def rowT (z : Str × List Fr × List P) : P := .tup (.str z.1 :: rowP z.2.1 :: z.2.2)
def NetR.alls (N : NetR) : List (Str × List Fr × List P) := N.pegs.map (fun z => (z.1, z.2, [])) ++ N.rings.map fun z => (z.1, z.2.1, [rowP z.2.2])
theorem alls_T (N : NetR) : N.pegs.map pegT ++ N.rings.map ringT = N.alls.map rowT := by
  unfold NetR.alls
  rw [List.map_append, List.map_map, List.map_map]
  rfl
theorem alls_len (N : NetR) : N.alls.length = N.pegs.length + N.rings.length := by
  unfold NetR.alls
  rw [List.length_append, List.length_map, List.length_map]
theorem alls_names (N : NetR) : N.alls.map (·.1) = N.names := by
  unfold NetR.alls NetR.names NetR.pegNames NetR.ringNames
  rw [List.map_append, List.map_map, List.map_map]
  rfl
theorem lookup_app {β : Type} (x : Str) : ∀ l m : List (Str × β), (l ++ m).lookup x = (l.lookup x).or (m.lookup x)
  | [], m => by simp
  | (y, b) :: l, m => by
    rw [List.cons_append, List.lookup_cons, List.lookup_cons]
    split
    · rfl
    · exact lookup_app x l m
theorem lookup_map {β γ : Type} (f : β → γ) (x : Str) : ∀ l : List (Str × β), (l.map fun z => (z.1, f z.2)).lookup x = (l.lookup x).map f
  | [] => rfl
  | (y, b) :: l => by
    rw [List.map_cons, List.lookup_cons, List.lookup_cons]
    cases x == y with
    | true => rfl
    | false => exact lookup_map f x l
theorem alls_place (N : NetR) (x : Str) : (N.alls.lookup x).map (·.1) = N.place x := by
  unfold NetR.alls NetR.place
  rw [lookup_app]
  have e1 : (N.pegs.map fun z => (z.1, z.2, ([] : List P))).lookup x = (N.pegs.lookup x).map fun r => (r, []) := lookup_map (fun r => (r, ([] : List P))) x N.pegs
  have e2 : (N.rings.map fun z => (z.1, z.2.1, [rowP z.2.2])).lookup x = (N.rings.lookup x).map fun z => (z.1, [rowP z.2]) := lookup_map (fun z : List Fr × List Fr => (z.1, [rowP z.2])) x N.rings
  rw [e1, e2]
  cases N.pegs.lookup x with
  | some r => rfl
  | none =>
    cases N.rings.lookup x with
    | some r => rfl
    | none => rfl
theorem first_of {β : Type} (f : β → P) {x : Str} : ∀ {l : List (Str × β)} {a : β}, l.lookup x = some a → ∃ rest, (l.filterMap fun z => if z.1 = x then some (f z.2) else none) = f a :: rest
  | [], a, e => by cases e
  | (y, b) :: l, a, e => by
    rw [List.lookup_cons] at e
    by_cases q : x = y
    · subst q
      rw [beq_self_eq_true] at e
      cases e
      exact ⟨_, by rw [List.filterMap_cons]; simp; rfl⟩
    · rw [beq_eq_false_iff_ne.mpr q] at e
      obtain ⟨rest, h⟩ := first_of f (l := l) (a := a) e
      refine ⟨rest, ?_⟩
      rw [List.filterMap_cons, if_neg (Ne.symm q)]
      exact h
theorem own_names (D : OwnAt h k p r c N) (l : N.pegs.length + N.rings.length ≤ 1000) : m__law_net_names [.obj k] h = .ok (.lst (N.names.map P.str)) h := by
  refine fn_rt0 ?_
  unfold b__law_net_names
  have a := add_lsts (b := false) (lstOf_obj D.hp) (lstOf_obj D.hr) (by simp; omega)
  rw [alls_T, mkL_false] at a
  have e := lc_map0 (ys := N.alls) (h := h) (g := gN 1) (e := eB itemP (eV 1) (eC (.int 0))) (t := [some (.obj k), none]) rowT (fun z => .str z.1) (by rw [alls_len]; omega) (fun z hz hh => ⟨_, rfl, by simp [rowT], rfl⟩)
  have m : N.alls.map (fun z => P.str z.1) = N.names.map P.str := by rw [← alls_names, List.map_map]; rfl
  rw [m] at e
  simp [own_pegs D, own_rings D, a, eLc_at, e]
theorem own_ringNames (D : OwnAt h k p r c N) (l : N.rings.length ≤ 1000) : m__law_net_rings [.obj k] h = .ok (.lst (N.ringNames.map P.str)) h := by
  refine fn_rt0 ?_
  unfold b__law_net_rings
  have lr := (List.getElem?_eq_some_iff.mp D.hr).1
  have e := lc_run (S := ⟨N.rings.map ringT, [r]⟩) (h := h) (g := gN 1) (c := tY) (e := eB itemP (eV 1) (eC (.int 0))) (t := [some (.obj k), none]) ringT (fun z => some (.str z.1)) (fun acc m hm => by
    have hm : m = r := by simpa using hm
    subst hm
    exact List.getElem?_append_left lr) (ys := N.rings) (acc := []) (fun z hz acc => ⟨_, rfl, [], [], by simp, by simp [ringT], rfl⟩) (by simp; omega)
  simp only [List.nil_append, List.filterMap_eq_map'] at e
  simp [own_rings D, src_obj D.hr, eLc_at, e]
  unfold NetR.ringNames
  rw [List.map_map]
  rfl
theorem own_place (D : OwnAt h k p r c N) (l : N.pegs.length + N.rings.length ≤ 1000) {x : Str} (hx : x ∈ N.names) : m__law_net_place [.obj k, .str x] h = .ok (rowP (N.placeD x)) h := by
  refine fn_rt0 ?_
  unfold b__law_net_place
  have a := add_lsts (b := false) (lstOf_obj D.hp) (lstOf_obj D.hr) (by simp; omega)
  rw [alls_T, mkL_false] at a
  have e := lc_run (S := ⟨N.alls.map rowT, []⟩) (h := h) (g := gN 2) (c := tCp eqP (eB itemP (eV 2) (eC (.int 0))) (eV 1)) (e := eB itemP (eV 2) (eC (.int 1))) (t := [some (.obj k), some (.str x), none]) rowT (fun z => if z.1 = x then some (rowP z.2.1) else none) (fun acc => (still_none _ _ _).mpr trivial) (ys := N.alls) (acc := []) (fun z hz acc => by
    refine ⟨_, rfl, ?_⟩
    by_cases q : z.1 = x
    · rw [if_pos q]
      exact ⟨[], [], by simp [rowT, q], by simp [rowT], clean_row _ _⟩
    · rw [if_neg q]
      exact ⟨[], by simp [rowT, q]⟩) (by rw [alls_len]; simp; omega)
  rw [List.nil_append] at e
  obtain ⟨b, lk, _⟩ := lookup_some (x := x) (l := N.alls) (by rw [alls_names]; exact hx)
  obtain ⟨rest, fo⟩ := first_of (fun z : List Fr × List P => rowP z.1) lk
  rw [fo] at e
  have pl : N.placeD x = b.1 := by
    unfold NetR.placeD
    rw [← alls_place, lk]
    rfl
  simp [own_pegs D, own_rings D, a, eLc_at, e, pl]
theorem own_weight (D : OwnAt h k p r c N) (l : N.rings.length ≤ 1000) {x : Str} (hx : x ∈ N.ringNames) : m__law_net_weight [.obj k, .str x] h = .ok (rowP (N.weightD x)) h := by
  refine fn_rt0 ?_
  unfold b__law_net_weight
  have lr := (List.getElem?_eq_some_iff.mp D.hr).1
  have e := lc_run (S := ⟨N.rings.map ringT, [r]⟩) (h := h) (g := gN 2) (c := tCp eqP (eB itemP (eV 2) (eC (.int 0))) (eV 1)) (e := eB itemP (eV 2) (eC (.int 2))) (t := [some (.obj k), some (.str x), none]) ringT (fun z => if z.1 = x then some (rowP z.2.2) else none) (fun acc m hm => by
    have hm : m = r := by simpa using hm
    subst hm
    exact List.getElem?_append_left lr) (ys := N.rings) (acc := []) (fun z hz acc => by
    refine ⟨_, rfl, ?_⟩
    by_cases q : z.1 = x
    · rw [if_pos q]
      exact ⟨[], [], by simp [ringT, q], by simp [ringT], clean_row _ _⟩
    · rw [if_neg q]
      exact ⟨[], by simp [ringT, q]⟩) (by simp; omega)
  rw [List.nil_append] at e
  obtain ⟨b, lk, _⟩ := lookup_some (x := x) (l := N.rings) hx
  obtain ⟨rest, fo⟩ := first_of (fun z : List Fr × List Fr => rowP z.2) lk
  rw [fo] at e
  have pl : N.weightD x = b.2 := by
    unfold NetR.weightD
    rw [lk]
  simp [own_rings D, src_obj D.hr, eLc_at, e, pl]
end
end
end K14


/-! own nets: ties, ways, what is left over -/
namespace K14
open PySem PySem.Spec PyProof.Rows L2 AM
noncomputable section
theorem ne_rows (r s : List Fr) (h : AH) : cmpV neP (rowP r) (rowP s) h = .ok (!decide (r = s)) h := by
  rw [ne_dat (dat_row _ r) (dat_row _ s) (shaped_row r) (shaped_row s) (fun x z => by cases z), eqv_row]
def NetR.tiedD (N : NetR) (a b : Str) : Bool := !(decide (a = b) || (decide (a ∉ N.ringNames) && decide (b ∉ N.ringNames)) || decide (8 < N.cords.length)) && !(decide ((a, b) ∈ N.cords) || decide ((b, a) ∈ N.cords)) && !decide (N.placeD a = N.placeD b)
section
variable {h : AH} {k p r c n : Nat} {N : NetR} {o : O} {T : Nat}
theorem own_tied (D : OwnAt h k p r c N) (l : N.pegs.length + N.rings.length ≤ 1000) {x y : Str} (hx : x ∈ N.names) (hy : y ∈ N.names) (so : strsOk (x, y) = true) (so2 : strsOk (y, x) = true) (sos : ∀ z ∈ N.cords, strsOk z = true) :
    m__law_net_tied [.obj k, .str x, .str y] h = .ok (.bl (N.tiedD x y)) h := by
  have rn := own_ringNames D (by omega)
  have ni : ∀ z : Str, cmpV notinP (.str z) (.lst (N.ringNames.map P.str)) h = .ok (!decide (z ∈ N.ringNames)) h := fun z => notin_of (cmp_in_words z N.ringNames h)
  have lc := len_lst D.hc
  have i1 := cmp_in_pairs so sos D.hc
  have i2 := cmp_in_pairs so2 sos D.hc
  have px := own_place D l hx
  have py := own_place D l hy
  have nr := ne_rows (N.placeD x) (N.placeD y) h
  refine fn_rt0 ?_
  unfold b__law_net_tied NetR.tiedD
  by_cases c1 : x = y
  · simp [rn, c1]
  · have c1b : (x == y) = false := beq_eq_false_iff_ne.mpr c1
    by_cases c2 : x ∉ N.ringNames ∧ y ∉ N.ringNames
    · simp [rn, c1b, ni, c1, c2.1, c2.2]
    · have c2d : (decide (x ∉ N.ringNames) && decide (y ∉ N.ringNames)) = false := by
        rw [← Bool.decide_and]
        exact decide_eq_false c2
      by_cases c3 : 8 < N.cords.length
      · have c3i : (8 : Int) < (N.cords.length : Nat) := by omega
        by_cases c4 : x ∈ N.ringNames
        · simp [rn, c1b, ni, c1, c4, own_cords D, lc, c3, c3i]
        · have c5 : y ∈ N.ringNames := Classical.byContradiction fun z => c2 ⟨c4, z⟩
          simp [rn, c1b, ni, c1, c4, c5, own_cords D, lc, c3, c3i]
      · have c3i : ¬ (8 : Int) < (N.cords.length : Nat) := by omega
        have st : (AM.tOr (tCp eqP (eV 1) (eV 2)) (AM.tOr (tAn (tCp notinP (eV 1) (eV 3)) (tCp notinP (eV 2) (eV 3))) (tCp gtP (eCB fLen (lC (eB itemP (eV 0) (eC (.str "cords"))) lN)) (eC (.int 8))))) [some (.obj k), some (.str x), some (.str y), some (.lst (N.ringNames.map P.str))] h = .ok false h := by
          by_cases c4 : x ∈ N.ringNames
          · simp [c1b, ni, c4, own_cords D, lc, c3i]
          · have c5 : y ∈ N.ringNames := Classical.byContradiction fun z => c2 ⟨c4, z⟩
            simp [c1b, ni, c4, c5, own_cords D, lc, c3i]
        rw [c2d]
        show (sQ _ _) [some (.obj k), some (.str x), some (.str y), none] h = _
        refine (sq_nx (t' := [some (.obj k), some (.str x), some (.str y), some (.lst (N.ringNames.map P.str))]) (h' := h) (by simp [rn])).trans ?_
        refine (sq_nx (t' := [some (.obj k), some (.str x), some (.str y), some (.lst (N.ringNames.map P.str))]) (h' := h) (by rw [sIf_at, st]; rfl)).trans ?_
        by_cases c6 : (x, y) ∈ N.cords
        · simp [own_cords D, i1, c6]
        · by_cases c7 : (y, x) ∈ N.cords
          · simp [own_cords D, i1, i2, c6, c7]
          · simp [own_cords D, i1, i2, c6, c7, px, py, nr, c1, c3]
/-- the way from an end of a cord to the other one -/
def NetR.fromD (N : NetR) (z : Str × Str) (x : Str) : List Fr := rowLess (N.placeD (if x = z.1 then z.2 else z.1)) (N.placeD x)
theorem from_ok (V : NetOk N) {z : Str × Str} (hz : z ∈ N.cords) {x : Str} (hx : x ∈ N.names) : RowOk 21 (N.fromD z x) ∧ (N.fromD z x).length = N.coords := by
  obtain ⟨h1, h2⟩ := V.cord z hz
  have hf : (if x = z.1 then z.2 else z.1) ∈ N.names := by split <;> assumption
  obtain ⟨_, r1, l1⟩ := V.place hf
  obtain ⟨_, r2, l2⟩ := V.place hx
  refine ⟨r1.less r2, ?_⟩
  unfold NetR.fromD
  rw [rowLess_len, l1, l2]
  omega
theorem own_way (D : OwnAt h k p r c N) (V : NetOk N) {i : Nat} {z : Str × Str} (e : N.cords[i]? = some z) {x : Str} (hx : x ∈ N.names) : m__law_net_way [.obj k, .int (i : Nat), .str x] h = .ok (rowP (N.fromD z x)) h := by
  have hz := List.mem_of_getElem? e
  obtain ⟨h1, h2⟩ := V.cord z hz
  have nr := V.nr
  have np := V.np
  have c3 := V.c3
  have hf : (if x = z.1 then z.2 else z.1) ∈ N.names := by split <;> assumption
  obtain ⟨_, r1, l1⟩ := V.place hf
  obtain ⟨_, r2, l2⟩ := V.place hx
  have it : itemP (.obj c) (.int (i : Nat)) h = .ok (pairP z) h := item_at D.hc (by rw [AM.atI_nat, List.getElem?_map, e]; rfl)
  have p1 := own_place D (by omega) hf
  have p2 := own_place D (by omega) hx
  have ls := o_row_less h r1 r2 (by omega) (by omega : (N.placeD (if x = z.1 then z.2 else z.1)).length ≤ 1000)
  refine fn_rt0 ?_
  unfold b__law_net_way NetR.fromD
  by_cases q : x = z.1
  · rw [if_pos q] at p1 ls ⊢
    simp [own_cords D, it, pairP, q]
    rw [q] at p2 ls
    simp [p1, p2, ls]
  · rw [if_neg q] at p1 ls ⊢
    have qb : (x == z.1) = false := beq_eq_false_iff_ne.mpr q
    simp [own_cords D, it, pairP, qb, p1, p2, ls]
/-- one more cord's pull -/
def NetR.pullD (N : NetR) (x : Str) (f : List Fr) (z : Nat × Fr) : List Fr := match N.cords[z.1]? with
  | some e => if (x = e.1 ∨ x = e.2) ∧ z.2.1 ≠ 0 then rowPlus f (rowTimes (N.fromD e x) z.2) else f
  | none => f
def NetR.leftD (N : NetR) (u : List Fr) (x : Str) (w : Bool) : List Fr := (enumF 0 u).foldl (N.pullD x) (if w = true then N.weightD x else List.replicate N.coords (0, 1))
theorem pull_ok (V : NetOk N) {x : Str} (hx : x ∈ N.names) {b m : Nat} {f : List Fr} (hf : RowOk m f ∧ f.length = N.coords) {z : Nat × Fr} (hz : FrOk b z.2) : RowOk (m + (22 + b)) (N.pullD x f z) ∧ (N.pullD x f z).length = N.coords := by
  unfold NetR.pullD
  split
  · rename_i e ez
    split
    · obtain ⟨r, l⟩ := from_ok V (List.mem_of_getElem? ez) hx
      refine ⟨(hf.1.plus (r.times hz)).mono (by omega), ?_⟩
      unfold rowPlus zipF rowTimes
      rw [List.length_map, List.length_zip, List.length_map, hf.2, l]
      omega
    · exact ⟨hf.1.mono (by omega), hf.2⟩
  · exact ⟨hf.1.mono (by omega), hf.2⟩
end
end
end K14


/-! own nets: what is left over -/
namespace K14
open PySem PySem.Spec PyProof.Rows L2 AM
noncomputable section
section
variable {h : AH} {k p r c n : Nat} {N : NetR} {o : O} {T : Nat}
def NetR.startD (N : NetR) (x : Str) (w : Bool) : List Fr := if w = true then N.weightD x else List.replicate N.coords (0, 1)
theorem weight_ok (V : NetOk N) {x : Str} (hx : x ∈ N.ringNames) : RowOk 10 (N.weightD x) ∧ (N.weightD x).length = N.coords := by
  obtain ⟨z, lk, hz⟩ := lookup_some hx
  have wd : N.weightD x = z.2 := by
    unfold NetR.weightD
    rw [lk]
  rw [wd]
  exact (V.ring _ hz).2
theorem noughts_ok (m : Nat) : RowOk 1 (List.replicate m ((0, 1) : Fr)) := fun x hx => by
  rw [(List.mem_replicate.mp hx).2]
  exact nought_ok
theorem start_ok (V : NetOk N) {x : Str} {w : Bool} (hx : w = true → x ∈ N.ringNames) : RowOk 10 (N.startD x w) ∧ (N.startD x w).length = N.coords := by
  unfold NetR.startD
  cases w with
  | true => exact weight_ok V (hx rfl)
  | false => exact ⟨(noughts_ok _).mono (by decide), List.length_replicate⟩
theorem own_left (D : OwnAt h k p r c N) (V : NetOk N) {x : Str} (hx : x ∈ N.names) {w : Bool} (hw : w = true → x ∈ N.ringNames) {u : List Fr} {b : Nat} (ub : RowOk b u) (ul : u.length ≤ N.cords.length) (l : 10 + u.length * (22 + b) + 22 + b < 8000)
    {q : P} (hq : q = .lst (u.map ratP) ∨ q = rowP u) : m__law_net_left [.obj k, q, .str x, .bl w] h = .ok (rowP (N.leftD u x w)) h ∧ RowOk (10 + u.length * (22 + b)) (N.leftD u x w) ∧ (N.leftD u x w).length = N.coords := by
  have nr := V.nr
  have np := V.np
  have nc := V.nc
  have c3 := V.c3
  have s0 := start_ok V hw
  have en : ∀ hh, srcEn [q] hh = .ok ⟨(enumF 0 u).map fun z => .tup [.int (z.1 : Nat), ratP z.2], []⟩ hh := fun hh => by
    rcases hq with rfl | rfl
    · rw [src_en_lst, enumP_map]
    · unfold rowP
      rw [src_en_tup, enumP_map]
  have main := for_steps (S := ⟨(enumF 0 u).map fun z => .tup [.int (z.1 : Nat), ratP z.2], []⟩) (h0 := h) (g := gT 2 (gsC (gN 5) (gsC (gN 6) gsN)))
    (b := sIf (tAn (tCp inP (eV 2) (eB itemP (eB itemP (eV 0) (eC (.str "cords"))) (eV 5))) (tCp neP (eB itemP (eV 6) (eC (.int 0))) (eC (.int 0)))) (sA (eCall 2 m__law_row_plus (lC (eV 4) (lC (eCall 2 m__law_row_times (lC (eCall 3 m__law_net_way (lC (eV 0) (lC (eV 5) (lC (eV 2) lN)))) (lC (eV 6) lN))) lN))) (gN 4)) sNx)
    (fun z : Nat × Fr => .tup [.int (z.1 : Nat), ratP z.2])
    (fun i t h' => h' = h ∧ ∃ f x5 x6, t = [some (.obj k), some q, some (.str x), some (.bl w), some (rowP f), x5, x6] ∧ f = ((enumF 0 u).take i).foldl (N.pullD x) (N.startD x w) ∧ (RowOk (10 + i * (22 + b)) f ∧ f.length = N.coords))
    (fun i t h' _ => (still_none _ _ _).mpr trivial) (ys := enumF 0 u) (i := 0)
    (fun j z ez t h' ⟨eh, f, x5, x6, et, ef, rf, lf⟩ => by
      rw [Nat.zero_add] at ef rf ⊢
      subst eh et
      obtain ⟨z1, z2⟩ := enumF_get ez
      rw [Nat.zero_add] at z1
      have jl : j < u.length := (List.getElem?_eq_some_iff.mp z2).1
      have hz : FrOk b z.2 := ub _ (List.mem_of_getElem? z2)
      obtain ⟨e, ee⟩ : ∃ e, N.cords[j]? = some e := ⟨_, List.getElem?_eq_getElem (by omega)⟩
      have nx := pull_ok V hx ⟨rf, lf⟩ (z := z) hz
      have ml : j * (22 + b) ≤ u.length * (22 + b) := Nat.mul_le_mul_right _ (by omega)
      have pe : N.pullD x f z = if (x = e.1 ∨ x = e.2) ∧ z.2.1 ≠ 0 then rowPlus f (rowTimes (N.fromD e x) z.2) else f := by
        unfold NetR.pullD
        rw [z1, ee]
      have fo : N.pullD x f z = ((enumF 0 u).take (j + 1)).foldl (N.pullD x) (N.startD x w) := by
        rw [List.take_succ, ez, List.foldl_append, ← ef]
        rfl
      obtain ⟨zi, zf⟩ := z
      dsimp only at z1 z2 hz
      subst z1
      have it : itemP (.obj c) (.int (zi : Nat)) h' = .ok (pairP e) h' := item_at D.hc (by rw [AM.atI_nat, List.getElem?_map, ee]; rfl)
      have ci := cmp_in_pair x e.1 e.2 h'
      have wy := own_way D V ee hx
      obtain ⟨r1, l1⟩ := from_ok V (List.mem_of_getElem? ee) hx
      have tm := o_row_times h' r1 hz (by omega) (by omega)
      have pl := o_row_plus h' rf (r1.times hz) (by omega) (by omega)
      refine ⟨[some (.obj k), some q, some (.str x), some (.bl w), some (rowP f), some (.int (zi : Nat)), some (ratP zf)], by simp, [some (.obj k), some q, some (.str x), some (.bl w), some (rowP (N.pullD x f (zi, zf))), some (.int (zi : Nat)), some (ratP zf)], h', ?_, rfl, _, _, _, rfl, fo, nx.1.mono (by rw [Nat.add_mul]; omega), nx.2⟩
      have i0 : itemP (ratP zf) (.int 0) h' = .ok (.int zf.1) h' := rfl
      have c0 : cmpV neP (.int zf.1) (.int 0) h' = .ok (!(zf.1 == 0)) h' := rfl
      rw [pe]
      by_cases q1 : x = e.1 ∨ x = e.2
      · by_cases q2 : zf.1 = 0
        · rw [if_neg (fun y => y.2 q2)]
          simp [own_cords D, it, pairP, ci, q1, i0, q2]
        · rw [if_pos ⟨q1, q2⟩]
          simp [own_cords D, it, pairP, ci, q1, i0, q2, wy, tm, pl]
      · rw [if_neg (fun y => q1 y.1)]
        simp [own_cords D, it, pairP, ci, q1]) [some (.obj k), some q, some (.str x), some (.bl w), some (rowP (N.startD x w)), none, none] h ⟨rfl, _, _, _, rfl, rfl, s0.1.mono (by omega), s0.2⟩
  obtain ⟨t2, h2, e2, rfl, f, x5, x6, rfl, ef, rf, lf⟩ := main
  rw [Nat.zero_add, enumF_len] at rf
  have ef2 : f = N.leftD u x w := by
    rw [ef, Nat.zero_add, List.take_of_length_le (Nat.le_refl _)]
    rfl
  rw [ef2] at rf lf e2
  refine ⟨?_, rf, lf⟩
  refine fn_rt0 ?_
  unfold b__law_net_left
  show (sQ _ _) [some (.obj k), some q, some (.str x), some (.bl w), none, none, none] h2 = _
  refine (sq_nx (t' := [some (.obj k), some q, some (.str x), some (.bl w), some (rowP (N.startD x w)), none, none]) (h' := h2) ?_).trans ?_
  · cases w with
    | true =>
      have wt := own_weight D (by omega) (hw rfl)
      simp [wt]
      rfl
    | false =>
      have mr := mul_row (c := false) N.coords h2 (by omega)
      simp [own_coords D, mr]
      rfl
  refine (sq_nx (t' := [some (.obj k), some q, some (.str x), some (.bl w), some (rowP (N.leftD u x w)), x5, x6]) (h' := h2) ?_).trans ?_
  · rw [sFor_at, show iEn (lC (eV 1) lN) [some (.obj k), some q, some (.str x), some (.bl w), some (rowP (N.startD x w)), none, none] h2 = srcEn [q] h2 from rfl, en, Out.toS_ok]
    exact e2
  · rfl
end
end
end K14


/-! own nets that grow -/
namespace K14
open PySem PySem.Spec PyProof.Rows L2 AM
noncomputable section
def Chg (h h' : AH) (k n p r c : Nat) : Prop := h'.length = h.length ∧ ∀ i, i ≠ k → i ≠ n → i ≠ p → i ≠ r → i ≠ c → h'[i]? = h[i]?
theorem Chg.refl (h : AH) (k n p r c : Nat) : Chg h h k n p r c := ⟨rfl, fun _ _ _ _ _ _ => rfl⟩
theorem Chg.trans {h h1 h2 : AH} {k n p r c : Nat} (a : Chg h h1 k n p r c) (b : Chg h1 h2 k n p r c) : Chg h h2 k n p r c := ⟨b.1.trans a.1, fun i i0 i1 i2 i3 i4 => (b.2 i i0 i1 i2 i3 i4).trans (a.2 i i0 i1 i2 i3 i4)⟩
theorem Chg.set {h : AH} {k n p r c i : Nat} {o : O} (e : i = k ∨ i = n ∨ i = p ∨ i = r ∨ i = c) : Chg h (h.set i o) k n p r c := ⟨by simp, fun j j0 j1 j2 j3 j4 => set_off (by rcases e with e | e | e | e | e <;> subst e <;> exact Ne.symm (by assumption))⟩
/-- an own net and a pot -/
structure St (h : AH) (k n p r c : Nat) (N : NetR) (T : Nat) : Prop where
  own : OwnAt h k p r c N
  pot : ∃ o, h[n]? = some o ∧ Cup T o
section
variable {h : AH} {k n p r c : Nat} {N : NetR} {T : Nat}
theorem St.mono (S : St h k n p r c N T) {U : Nat} (l : T ≤ U) : St h k n p r c N U := ⟨S.own, let ⟨o, a, b⟩ := S.pot; ⟨o, a, b.mono l⟩⟩
theorem St.draw (S : St h k n p r c N T) {o' : O} {U : Nat} (cu : Cup U o') : St (h.set n o') k n p r c N U ∧ Chg h (h.set n o') k n p r c := by
  obtain ⟨o, a, b⟩ := S.pot
  exact ⟨⟨S.own.set a b o', o', set_at a, cu⟩, Chg.set (.inr (.inl rfl))⟩
theorem st_take (S : St h k n p r c N T) (l : T < 1000000) {u : Nat} (u0 : 0 < u) (u1 : u < 2 ^ 60) : ∃ (d : Nat) (h1 : AH), d < u ∧ St h1 k n p r c N (T + 1) ∧ Chg h h1 k n p r c ∧ m__law_take [.obj n, .int (u : Nat)] h = .ok (.int (d : Nat)) h1 := by
  obtain ⟨o, a, b⟩ := S.pot
  obtain ⟨d, o', hd, cu, z⟩ := cup_take a b l u0 u1
  exact ⟨d, _, hd, (S.draw cu).1, (S.draw cu).2, z⟩
theorem st_of (S : St h k n p r c N T) (l : T < 1000000) {xs : List P} (ne : xs ≠ []) (lx : xs.length < 1000000) : ∃ (x : P) (h1 : AH), x ∈ xs ∧ St h1 k n p r c N (T + 1) ∧ Chg h h1 k n p r c ∧ m__law_of [.obj n, .lst xs] h = .ok x h1 := by
  obtain ⟨o, a, b⟩ := S.pot
  obtain ⟨d, o', hd, cu, z⟩ := cup_of a b l ne lx
  exact ⟨d, _, hd, (S.draw cu).1, (S.draw cu).2, z⟩
theorem st_spot (S : St h k n p r c N T) (l : T + 3 < 1000000) {m : Nat} (m3 : m ≤ 3) : ∃ (row : List Fr) (h1 : AH), row.length = m ∧ (∀ x ∈ row, x ∈ fracT) ∧ St h1 k n p r c N (T + 3) ∧ Chg h h1 k n p r c ∧ m__law_net_spot [.obj n, .int (m : Nat)] h = .ok (rowP row) h1 := by
  obtain ⟨o, a, b⟩ := S.pot
  obtain ⟨d, o', hd, hx, cu, z⟩ := cup_spot a b m3 l
  exact ⟨d, _, hd, hx, (S.draw cu).1, (S.draw cu).2, z⟩
theorem OwnAt.kn (D : OwnAt h k p r c N) : k ≠ p ∧ k ≠ r ∧ k ≠ c := by
  refine ⟨fun z => ?_, fun z => ?_, fun z => ?_⟩ <;> subst z
  · cases D.own.symm.trans D.hp
  · cases D.own.symm.trans D.hr
  · cases D.own.symm.trans D.hc
theorem OwnAt.addPeg (D : OwnAt h k p r c N) (z : Str × List Fr) : OwnAt (h.set p (.lst (N.pegs.map pegT ++ [pegT z]))) k p r c { N with pegs := N.pegs ++ [z] } := by
  obtain ⟨n1, n2, n3⟩ := D.kn
  refine ⟨(set_off (Ne.symm n1)).trans D.own, ?_, (set_off D.pr).trans D.hr, (set_off D.pc).trans D.hc, D.pr, D.pc, D.rc⟩
  rw [set_at D.hp, List.map_append]
  rfl
theorem OwnAt.addRing (D : OwnAt h k p r c N) (z : Str × List Fr × List Fr) : OwnAt (h.set r (.lst (N.rings.map ringT ++ [ringT z]))) k p r c { N with rings := N.rings ++ [z] } := by
  obtain ⟨n1, n2, n3⟩ := D.kn
  refine ⟨(set_off (Ne.symm n2)).trans D.own, (set_off (Ne.symm D.pr)).trans D.hp, ?_, (set_off D.rc).trans D.hc, D.pr, D.pc, D.rc⟩
  rw [set_at D.hr, List.map_append]
  rfl
theorem OwnAt.addCord (D : OwnAt h k p r c N) (z : Str × Str) : OwnAt (h.set c (.lst (N.cords.map pairP ++ [pairP z]))) k p r c { N with cords := N.cords ++ [z] } := by
  obtain ⟨n1, n2, n3⟩ := D.kn
  refine ⟨(set_off (Ne.symm n3)).trans D.own, (set_off (Ne.symm D.pc)).trans D.hp, (set_off (Ne.symm D.rc)).trans D.hr, ?_, D.pr, D.pc, D.rc⟩
  rw [set_at D.hc, List.map_append]
  rfl
theorem St.addPeg (S : St h k n p r c N T) (z : Str × List Fr) : St (h.set p (.lst (N.pegs.map pegT ++ [pegT z]))) k n p r c { N with pegs := N.pegs ++ [z] } T ∧ Chg h (h.set p (.lst (N.pegs.map pegT ++ [pegT z]))) k n p r c := by
  obtain ⟨o, a, b⟩ := S.pot
  obtain ⟨n1, n2, n3, n4⟩ := S.own.off a b
  exact ⟨⟨S.own.addPeg z, o, (set_off (Ne.symm n2)).trans a, b⟩, Chg.set (.inr (.inr (.inl rfl)))⟩
theorem St.addRing (S : St h k n p r c N T) (z : Str × List Fr × List Fr) : St (h.set r (.lst (N.rings.map ringT ++ [ringT z]))) k n p r c { N with rings := N.rings ++ [z] } T ∧ Chg h (h.set r (.lst (N.rings.map ringT ++ [ringT z]))) k n p r c := by
  obtain ⟨o, a, b⟩ := S.pot
  obtain ⟨n1, n2, n3, n4⟩ := S.own.off a b
  exact ⟨⟨S.own.addRing z, o, (set_off (Ne.symm n3)).trans a, b⟩, Chg.set (.inr (.inr (.inr (.inl rfl))))⟩
theorem St.addCord (S : St h k n p r c N T) (z : Str × Str) : St (h.set c (.lst (N.cords.map pairP ++ [pairP z]))) k n p r c { N with cords := N.cords ++ [z] } T ∧ Chg h (h.set c (.lst (N.cords.map pairP ++ [pairP z]))) k n p r c := by
  obtain ⟨o, a, b⟩ := S.pot
  obtain ⟨n1, n2, n3, n4⟩ := S.own.off a b
  exact ⟨⟨S.own.addCord z, o, (set_off (Ne.symm n4)).trans a, b⟩, Chg.set (.inr (.inr (.inr (.inr rfl))))⟩
end
def poolN : List Str := ["a", "b", "c", "d", "moon", "z", "r", "s"]
def plainN (x : Str) : Bool := nameOk x && wordy x && PyData.strOk x && decide (x.length ≤ 6) && (x.cps.toList.all fun c => decide (c < 16 ^ 8))
theorem poolN_plain : ∀ x ∈ poolN, plainN x = true := by decide +kernel
theorem plainN_name {x : Str} (h : plainN x = true) : nameOk x = true := by
  unfold plainN at h
  simp only [Bool.and_eq_true] at h
  exact h.1.1.1.1
theorem plainN_wordy {x : Str} (h : plainN x = true) : wordy x = true := by
  unfold plainN at h
  simp only [Bool.and_eq_true] at h
  exact h.1.1.1.2
theorem plainN_str {x : Str} (h : plainN x = true) : PyData.strOk x = true := by
  unfold plainN at h
  simp only [Bool.and_eq_true] at h
  exact h.1.1.2
theorem plainN_len {x : Str} (h : plainN x = true) : x.length ≤ 6 := by
  unfold plainN at h
  simp only [Bool.and_eq_true] at h
  exact of_decide_eq_true h.1.2
theorem plainN_leaf {x : Str} (h : plainN x = true) : (x.cps.toList.all fun c => decide (c < 16 ^ 8)) = true := by
  unfold plainN at h
  simp only [Bool.and_eq_true] at h
  exact h.2
def far (a b : Str × Str) : Prop := a ≠ b ∧ (a.2, a.1) ≠ b
/-- an own net that can be told -/
structure OwnOk (N : NetR) : Prop where
  c1 : 1 ≤ N.coords
  c3 : N.coords ≤ 3
  nd : N.names.Nodup
  pool : ∀ x ∈ N.names, x ∈ poolN
  peg : ∀ z ∈ N.pegs, (∀ x ∈ z.2, NumOk x) ∧ z.2.length = N.coords
  ring : ∀ z ∈ N.rings, ((∀ x ∈ z.2.1, NumOk x) ∧ z.2.1.length = N.coords) ∧ (∀ x ∈ z.2.2, NumOk x) ∧ z.2.2.length = N.coords
  nc : N.cords.length ≤ 9
  cord : ∀ e ∈ N.cords, e.1 ∈ N.names ∧ e.2 ∈ N.names ∧ (e.1 ∈ N.ringNames ∨ e.2 ∈ N.ringNames) ∧ N.placeD e.1 ≠ N.placeD e.2
  pw : N.cords.Pairwise far
theorem nodup_len : ∀ {l m : List Str}, l.Nodup → (∀ x ∈ l, x ∈ m) → l.length ≤ m.length
  | [], _, _, _ => Nat.zero_le _
  | x :: l, m, nd, h => by
    have hx : x ∈ m := h x (List.mem_cons_self ..)
    have nx := List.nodup_cons.mp nd
    have z := nodup_len (l := l) (m := m.erase x) nx.2 fun y hy => (List.mem_erase_of_ne (fun (e : y = x) => nx.1 (e ▸ hy))).mpr (h y (List.mem_cons_of_mem _ hy))
    rw [List.length_erase_of_mem hx] at z
    have := List.length_pos_of_mem hx
    rw [List.length_cons]
    omega
theorem pool_few {l : List Str} (nd : l.Nodup) (h : ∀ x ∈ l, x ∈ poolN) : l.length ≤ 8 := by
  exact nodup_len nd h
section
variable {N : NetR}
theorem OwnOk.few (V : OwnOk N) : N.pegs.length + N.rings.length ≤ 8 := by
  have z := pool_few V.nd V.pool
  unfold NetR.names NetR.pegNames NetR.ringNames at z
  rw [List.length_append, List.length_map, List.length_map] at z
  exact z
theorem OwnOk.net (V : OwnOk N) : NetOk N := by
  have f := V.few
  refine ⟨V.c1, V.c3, V.nd, by omega, by omega, by have := V.nc; omega, fun z hz => ⟨fun x hx => ((V.peg z hz).1 x hx).1, (V.peg z hz).2⟩, fun z hz => ⟨⟨fun x hx => ((V.ring z hz).1.1 x hx).1, (V.ring z hz).1.2⟩, fun x hx => ((V.ring z hz).2.1 x hx).1, (V.ring z hz).2.2⟩, fun e he => ⟨(V.cord e he).1, (V.cord e he).2.1⟩⟩
theorem OwnOk.str (V : OwnOk N) {x : Str} (hx : x ∈ N.names) : PyData.strOk x = true := plainN_str (poolN_plain x (V.pool x hx))
theorem OwnOk.strs (V : OwnOk N) {x y : Str} (hx : x ∈ N.names) (hy : y ∈ N.names) : strsOk (x, y) = true := by
  unfold strsOk
  rw [V.str hx, V.str hy]
  rfl
theorem OwnOk.cords (V : OwnOk N) : ∀ e ∈ N.cords, strsOk e = true := fun e he => V.strs (V.cord e he).1 (V.cord e he).2.1
theorem fracT_ok : ∀ x ∈ fracT, NumOk x := by
  intro x hx
  have c : x ∈ fracT → (0 < x.2 ∧ x.1.natAbs < 2 ^ 10 ∧ x.2.natAbs < 2 ^ 10 ∧ Int.gcd x.1 x.2 = 1) ∧ x.1.natAbs ≤ 1000 ∧ x.2 ≤ 60 := by
    revert x
    decide +kernel
  obtain ⟨⟨a, b, c, d⟩, e, f⟩ := c hx
  exact ⟨⟨a, b, c, d⟩, e, f⟩
/-- names and places beside a further ring -/
theorem place_more {x : Str} {z : List Fr × List Fr} {M : NetR} (hM : M = { N with rings := N.rings ++ [(x, z)] }) {y : Str} (hy : y ∈ N.names) : M.placeD y = N.placeD y := by
  subst hM
  unfold NetR.placeD NetR.place
  dsimp only
  cases e : N.pegs.lookup y with
  | some q => rfl
  | none =>
    dsimp only
    rw [lookup_app]
    have hr : y ∈ N.rings.map (·.1) := by
      unfold NetR.names NetR.pegNames NetR.ringNames at hy
      rcases List.mem_append.mp hy with q | q
      · obtain ⟨a, e2, _⟩ := lookup_some q
        rw [e] at e2
        cases e2
      · exact q
    obtain ⟨a, e2, _⟩ := lookup_some hr
    rw [e2]
    rfl
theorem names_more {x : Str} {z : List Fr × List Fr} {M : NetR} (hM : M = { N with rings := N.rings ++ [(x, z)] }) : M.names = N.names ++ [x] ∧ M.ringNames = N.ringNames ++ [x] ∧ M.pegs = N.pegs ∧ M.coords = N.coords ∧ M.cords = N.cords := by
  subst hM
  unfold NetR.names NetR.pegNames NetR.ringNames
  simp
/-- a further ring -/
theorem OwnOk.addRing (V : OwnOk N) {x : Str} (hx : x ∉ N.names) (hp : x ∈ poolN) {a b : List Fr} (ha : ∀ y ∈ a, NumOk y) (la : a.length = N.coords) (hb : ∀ y ∈ b, NumOk y) (lb : b.length = N.coords) : OwnOk { N with rings := N.rings ++ [(x, (a, b))] } := by
  obtain ⟨e1, e2, e3, e4, e5⟩ := names_more (N := N) (x := x) (z := (a, b)) rfl
  have pm : ∀ y ∈ N.names, NetR.placeD { N with rings := N.rings ++ [(x, (a, b))] } y = N.placeD y := fun y hy => place_more rfl hy
  refine ⟨V.c1, V.c3, ?_, ?_, V.peg, fun z hz => ?_, V.nc, fun e he => ?_, V.pw⟩
  · rw [e1, List.nodup_append]
    exact ⟨V.nd, by simp, fun y hy q hq => by rw [List.mem_singleton.mp hq]; exact fun z => hx (z ▸ hy)⟩
  · rw [e1]
    intro y hy
    rcases List.mem_append.mp hy with q | q
    · exact V.pool y q
    · rw [List.mem_singleton.mp q]
      exact hp
  · rcases List.mem_append.mp hz with q | q
    · exact V.ring z q
    · rw [List.mem_singleton.mp q]
      exact ⟨⟨ha, la⟩, hb, lb⟩
  · obtain ⟨q1, q2, q3, q4⟩ := V.cord e he
    rw [e1, e2, pm _ q1, pm _ q2]
    exact ⟨List.mem_append_left _ q1, List.mem_append_left _ q2, q3.imp (List.mem_append_left _) (List.mem_append_left _), q4⟩
/-- a further cord -/
theorem OwnOk.addCord (V : OwnOk N) {x y : Str} (hx : x ∈ N.names) (hy : y ∈ N.names) (t : N.tiedD x y = true) {e : Str × Str} (he : e = (x, y) ∨ e = (y, x)) : OwnOk { N with cords := N.cords ++ [e] } := by
  unfold NetR.tiedD at t
  simp only [Bool.and_eq_true, Bool.not_eq_true', Bool.or_eq_false_iff, Bool.and_eq_false_iff, decide_eq_false_iff_not, Classical.not_not] at t
  obtain ⟨⟨⟨⟨t1, t2⟩, t3⟩, t4, t5⟩, t6⟩ := t
  refine ⟨V.c1, V.c3, V.nd, V.pool, V.peg, V.ring, ?_, fun q hq => ?_, ?_⟩
  · show (N.cords ++ [e]).length ≤ 9
    simp
    omega
  · rcases List.mem_append.mp hq with q1 | q1
    · exact V.cord q q1
    · rw [List.mem_singleton.mp q1]
      rcases he with rfl | rfl
      · exact ⟨hx, hy, t2, t6⟩
      · exact ⟨hy, hx, t2.symm, fun z => t6 z.symm⟩
  · show (N.cords ++ [e]).Pairwise far
    rw [List.pairwise_append]
    refine ⟨V.pw, List.pairwise_singleton _ _, fun a ha b hb => ?_⟩
    rw [List.mem_singleton.mp hb]
    rcases he with rfl | rfl
    · refine ⟨fun z => t4 (z ▸ ha), fun z => t5 ?_⟩
      have : a = (y, x) := by rw [← Prod.eta a]; cases z; rfl
      exact this ▸ ha
    · refine ⟨fun z => t5 (z ▸ ha), fun z => t4 ?_⟩
      have : a = (x, y) := by rw [← Prod.eta a]; cases z; rfl
      exact this ▸ ha
end
end
end K14


/-! rings that are drawn -/
namespace K14
open PySem PySem.Spec PyProof.Rows L2 AM
noncomputable section
theorem mul_lst (m : Nat) (h : AH) (l : m ≤ 1000) : vMulA false (.lst [.tup [.int 0, .int 1]]) (.int (m : Nat)) h = .ok (.lst ((List.replicate m ((0, 1) : Fr)).map ratP)) h := by
  have fl : ∀ k : Nat, (List.replicate k [P.tup [.int 0, .int 1]]).flatten = (List.replicate k ((0, 1) : Fr)).map ratP := fun k => by
    induction k with
    | zero => rfl
    | succ k ih =>
      rw [List.replicate_succ, List.flatten_cons, ih, List.replicate_succ, List.map_cons]
      rfl
  rw [← fl]
  have z : vMulL false (.lst [.tup [.int 0, .int 1]]) (.int (m : Nat)) h = .ok (.lst (List.replicate m [P.tup [.int 0, .int 1]]).flatten) h := by
    show (if -1000000 ≤ (m : Int) ∧ (m : Int) ≤ 1000000 ∧ small ([P.tup [.int 0, .int 1]].length * (m : Int).toNat) = true then mkL false (List.replicate (m : Int).toNat [P.tup [.int 0, .int 1]]).flatten h else .bad) = _
    rw [if_pos ⟨by omega, by omega, small_true (by simp; omega)⟩]
    rfl
  unfold vMulA orF2
  show (match (match (match vMul (.lst [.tup [.int 0, .int 1]]) (.int (m : Nat)) h with
    | .bad => vMulS (.lst [.tup [.int 0, .int 1]]) (.int (m : Nat)) h
    | o => o : Out P) with
    | .bad => vMul0 (.lst [.tup [.int 0, .int 1]]) (.int (m : Nat)) h
    | o => o : Out P) with
    | .bad => vMulL false (.lst [.tup [.int 0, .int 1]]) (.int (m : Nat)) h
    | o => o : Out P) = _
  exact z
def fits60 (x : Fr) : Bool := decide (x.2 ≤ 60) && decide (((x.1.natAbs : Nat) : Int) ≤ 1000)
theorem fits60_ok {m : Nat} {x : Fr} (hx : FrOk m x) (e : fits60 x = true) : NumOk x := by
  unfold fits60 at e
  simp only [Bool.and_eq_true, decide_eq_true_eq] at e
  obtain ⟨e1, e2⟩ := e
  have := hx.pos
  exact ⟨⟨hx.pos, by omega, by omega, hx.low⟩, by omega, e1⟩
theorem noughts_num (m : Nat) : ∀ x ∈ List.replicate m ((0, 1) : Fr), NumOk x := fun x hx => by
  rw [(List.mem_replicate.mp hx).2]
  exact ⟨⟨by decide, by decide, by decide, by decide⟩, by decide, by decide⟩
theorem mkFn_nx {ns : Nat} {b : SM} {xs : List P} {h h' : AH} {t : AM.Loc} (e : b (xs.map some ++ List.replicate (ns - xs.length) none) h = .nx t h') (l : h'.length = h.length) : mkFn ns b xs h = .ok .non h' := by
  unfold mkFn
  rw [e]
  show Out.ok P.non (trim h .non h') = _
  rw [trim_len l]
/-- whether all are within the bounds, as the law asks it -/
theorem all_fit {h : AH} {t : AM.Loc} {i j : Nat} {row : List Fr} (ei : t[i]? = some (some (rowP row))) (tj : t[j]? = some none) (ne : i ≠ j) (rl : row.length ≤ 1000) :
    eCB fAll (lC (eLc (iSeq (eV i)) [j] (gN j) tY (eAn (eCmp leP (eB itemP (eV j) (eC (.int 1))) (eC (.int 60))) (eCmp leP (eCB fAbs (lC (eB itemP (eV j) (eC (.int 0))) lN)) (eC (.int 1000))))) lN) t h = .ok (.bl (row.all fits60)) h := by
  have tl := (List.getElem?_eq_some_iff.mp tj).1
  have wp : wipeL t [j] = t := by
    rw [wipeL_cons, wipeL_nil]
    refine List.ext_getElem? fun q => ?_
    rw [List.getElem?_set]
    split
    · rename_i e
      subst e
      rw [tj]
    · rfl
  have e := lc_map0 (ys := row) (h := h) (g := gN j) (e := eAn (eCmp leP (eB itemP (eV j) (eC (.int 1))) (eC (.int 60))) (eCmp leP (eCB fAbs (lC (eB itemP (eV j) (eC (.int 0))) lN)) (eC (.int 1000)))) (t := t) ratP (fun x => .bl (fits60 x)) (by omega) (fun y hy hh => by
    refine ⟨t.set j (some (ratP y)), rfl, ?_, rfl⟩
    have v : ∀ hh, eV j (t.set j (some (ratP y))) hh = .ok (ratP y) hh := fun hh => eV_some (by rw [List.getElem?_set_self tl])
    have i1 : itemP (ratP y) (.int 1) hh = .ok (.int y.2) hh := rfl
    have i0 : itemP (ratP y) (.int 0) hh = .ok (.int y.1) hh := rfl
    unfold fits60
    by_cases q : y.2 ≤ 60
    · simp [v, i1, i0, q]
    · simp [v, i1, i0, q])
  have e3 := f_all (row.map fits60) h
  rw [List.map_map] at e3
  have e4 : (row.map fits60).all id = row.all fits60 := by
    rw [List.all_map]
    rfl
  rw [e4] at e3
  rw [eCB_at, lC_at, eLc_at, iSeq_at, eV_some ei, Out.bind_ok]
  show Out.bind (Out.bind (Out.bind (srcSeq (.tup (row.map ratP)) h) _) _) _ = _
  rw [src_tup, Out.bind_ok, wp, e, Out.bind_ok, lN_at, Out.bind_ok, Out.bind_ok]
  exact e3
theorem eCall2_ok {f : Fn} {a b : EM} {t : AM.Loc} {h h1 h2 : AH} {x y : P} (e1 : a t h = .ok x h1) (e2 : b t h1 = .ok y h2) : eCall 2 f (lC a (lC b lN)) t h = f [x, y] h2 := by simp [e1, e2]
theorem sA_if {c : TM} {m1 m2 : EM} {t : AM.Loc} {h h1 h2 : AH} {b : Bool} {p : P} {i : Nat} (ec : c t h = .ok b h1) (e : (if b = true then m1 t h1 else m2 t h1) = .ok p h2) : sA (eIf c m1 m2) (gN i) t h = .nx (t.set i (some p)) h2 := by simp [ec, e]
def shareT : List Fr := [(1, 2), (1, 3), (2, 3), (1, 2), (3, 4)]
theorem shareT_ok : ∀ x ∈ shareT, FrOk 10 x := by
  intro x hx
  have c : x ∈ shareT → 0 < x.2 ∧ x.1.natAbs < 2 ^ 10 ∧ x.2.natAbs < 2 ^ 10 ∧ Int.gcd x.1 x.2 = 1 := by
    revert x
    decide +kernel
  obtain ⟨a, b, c, d⟩ := c hx
  exact ⟨a, b, c, d⟩
section
variable {h : AH} {k n p r c : Nat} {N : NetR} {T : Nat}
/-- ties of a further ring -/
theorem st_ties (S : St h k n p r c N T) (V : OwnOk N) (l : T + 5 < 1000000) {x : Str} (hx : x ∈ N.names) {u3 u4 u5 u6 u7 u8 u9 u10 u11 u12 : Option P} {ys : List Str} (hy : ∀ y ∈ ys, y ∈ N.names) (ly : ys.length ≤ 2) :
    ∃ (M : NetR) (h' : AH) (v : Option P), forP ⟨ys.map P.str, []⟩ h (gN 11) (sIf (tT (eCall 3 m__law_net_tied (lC (eV 1) (lC (eV 2) (lC (eV 11) lN))))) (sE (eBM "list" mAppend (eB itemP (eV 1) (eC (.str "cords"))) (lC (eCall 2 m__law_of (lC (eV 0) (lC (eLst false (lC (eTup (lC (eV 2) (lC (eV 11) lN))) (lC (eTup (lC (eV 11) (lC (eV 2) lN))) lN))) lN))) lN))) sNx) (ys.map P.str) [some (.obj n), some (.obj k), some (.str x), u3, u4, u5, u6, u7, u8, u9, u10, u11, u12] h = .nx [some (.obj n), some (.obj k), some (.str x), u3, u4, u5, u6, u7, u8, u9, u10, v, u12] h' ∧ St h' k n p r c M (T + 2) ∧ Chg h h' k n p r c ∧ OwnOk M ∧ M.pegs = N.pegs ∧ M.rings = N.rings ∧ M.coords = N.coords := by
  obtain ⟨t2, h2, e2, M, v, et, S2, C2, V2, q1, q2, q3⟩ := for_steps (S := ⟨ys.map P.str, []⟩) (h0 := h) (g := gN 11) (b := sIf (tT (eCall 3 m__law_net_tied (lC (eV 1) (lC (eV 2) (lC (eV 11) lN))))) (sE (eBM "list" mAppend (eB itemP (eV 1) (eC (.str "cords"))) (lC (eCall 2 m__law_of (lC (eV 0) (lC (eLst false (lC (eTup (lC (eV 2) (lC (eV 11) lN))) (lC (eTup (lC (eV 11) (lC (eV 2) lN))) lN))) lN))) lN))) sNx)
    P.str (fun i t h' => ∃ (M : NetR) (v : Option P), t = [some (.obj n), some (.obj k), some (.str x), u3, u4, u5, u6, u7, u8, u9, u10, v, u12] ∧ St h' k n p r c M (T + i) ∧ Chg h h' k n p r c ∧ OwnOk M ∧ M.pegs = N.pegs ∧ M.rings = N.rings ∧ M.coords = N.coords)
    (fun i t h' _ => (still_none _ _ _).mpr trivial) (ys := ys) (i := 0)
    (fun j y ey t h' ⟨M, v, et, S2, C2, V2, q1, q2, q3⟩ => by
      subst et
      rw [Nat.zero_add] at S2 ⊢
      have jl := (List.getElem?_eq_some_iff.mp ey).1
      have nm : M.names = N.names := by
        unfold NetR.names NetR.pegNames NetR.ringNames
        rw [q1, q2]
      have hx2 : x ∈ M.names := nm ▸ hx
      have hy2 : y ∈ M.names := nm ▸ hy y (List.mem_of_getElem? ey)
      have fw := V2.few
      have td := own_tied S2.own (by omega) hx2 hy2 (V2.strs hx2 hy2) (V2.strs hy2 hx2) V2.cords
      refine ⟨_, rfl, ?_⟩
      cases e : M.tiedD x y with
      | false =>
        rw [e] at td
        refine ⟨[some (.obj n), some (.obj k), some (.str x), u3, u4, u5, u6, u7, u8, u9, u10, some (.str y), u12], h', ?_, M, _, rfl, S2.mono (by omega), C2, V2, q1, q2, q3⟩
        simp [td]
      | true =>
        rw [e] at td
        obtain ⟨P1, h1, m1, S3, C3, z1⟩ := st_of S2 (by omega) (xs := [pairP (x, y), pairP (y, x)]) (by simp) (by simp)
        obtain ⟨w, ew, hw⟩ : ∃ w : Str × Str, P1 = pairP w ∧ (w = (x, y) ∨ w = (y, x)) := by
          rcases List.mem_cons.mp m1 with q | q
          · exact ⟨_, q, .inl rfl⟩
          · rw [List.mem_singleton] at q
            exact ⟨_, q, .inr rfl⟩
        subst ew
        obtain ⟨S4, C4⟩ := S3.addCord w
        have ap := append_at (y := pairP w) S3.own.hc (by rw [List.length_map]; have := V2.nc; omega)
        have z1 : m__law_of [.obj n, .lst [.tup [.str x, .str y], .tup [.str y, .str x]]] h' = .ok (pairP w) h1 := z1
        refine ⟨[some (.obj n), some (.obj k), some (.str x), u3, u4, u5, u6, u7, u8, u9, u10, some (.str y), u12], _, ?_, { M with cords := M.cords ++ [w] }, _, rfl, S4.mono (by omega), C2.trans (C3.trans C4), V2.addCord hx2 hy2 e hw, q1, q2, q3⟩
        simp [td, own_cords S2.own, isTy_at S2.own.hc, z1, ap]) [some (.obj n), some (.obj k), some (.str x), u3, u4, u5, u6, u7, u8, u9, u10, u11, u12] h ⟨N, _, rfl, S, Chg.refl .., V, rfl, rfl, rfl⟩
  subst et
  exact ⟨M, h2, v, e2, S2.mono (by omega), C2, V2, q1, q2, q3⟩
end
end
end K14


/-! a further ring -/
namespace K14
open PySem PySem.Spec PyProof.Rows L2 AM
noncomputable section
section
variable {h : AH} {k n p r c : Nat} {N : NetR} {T : Nat}
theorem st_ring (S : St h k n p r c N T) (V : OwnOk N) (hp : N.pegs ≠ []) {x : Str} (hx : x ∉ N.names) (px : x ∈ poolN) (l : T + 20 < 1000000) :
    ∃ (M : NetR) (h' : AH), m__law_net_ring_drawn [.obj n, .obj k, .str x] h = .ok .non h' ∧ St h' k n p r c M (T + 12) ∧ Chg h h' k n p r c ∧ OwnOk M ∧ M.pegs = N.pegs ∧ M.names = N.names ++ [x] ∧ M.coords = N.coords ∧ M.rings.length = N.rings.length + 1 := by
  have fw := V.few
  have VN := V.net
  have c3 := V.c3
  have nn : N.names ≠ [] := by
    unfold NetR.names NetR.pegNames
    intro e
    have := List.append_eq_nil_iff.mp e
    exact hp (List.map_eq_nil_iff.mp this.1)
  have nl : N.names.length ≤ 8 := pool_few V.nd V.pool
  have nm := own_names S.own (by omega)
  obtain ⟨P1, h1, m1, S1, C1, z1⟩ := st_of S (by omega) (xs := N.names.map P.str) (by simpa using nn) (by simp; omega)
  obtain ⟨a, ha, rfl⟩ := List.mem_map.mp m1
  obtain ⟨P2, h2, m2, S2, C2, z2⟩ := st_of S1 (by omega) (xs := N.names.map P.str) (by simpa using nn) (by simp; omega)
  obtain ⟨b, hb, rfl⟩ := List.mem_map.mp m2
  obtain ⟨P3, h3, m3, S3, C3, z3⟩ := st_of S2 (by omega) (xs := shareT.map ratP) (by decide) (by decide)
  obtain ⟨sh, hs, rfl⟩ := List.mem_map.mp m3
  have sok := shareT_ok sh hs
  have pa := own_place S3.own (by omega) ha
  have pb := own_place S3.own (by omega) hb
  obtain ⟨_, ra, la⟩ := VN.place ha
  obtain ⟨_, rb, lb⟩ := VN.place hb
  have w1 := o_row_less h3 rb ra (by omega) (by omega)
  have rw1 := rb.less ra
  have lw : (rowLess (N.placeD b) (N.placeD a)).length = N.coords := by rw [rowLess_len, la, lb]; omega
  have w2 := o_row_times h3 rw1 sok (by omega) (by omega)
  have w3 := o_row_plus h3 ra (rw1.times sok) (by omega) (by omega)
  have r3 := ra.plus (rw1.times sok)
  have l3 : (rowPlus (N.placeD a) (rowTimes (rowLess (N.placeD b) (N.placeD a)) sh)).length = N.coords := by
    unfold rowPlus zipF rowTimes
    rw [List.length_map, List.length_zip, List.length_map, la, lw]
    omega
  generalize rowPlus (N.placeD a) (rowTimes (rowLess (N.placeD b) (N.placeD a)) sh) = row at w3 r3 l3
  obtain ⟨d, h4, hd, S4, C4, z4⟩ := st_take S3 (by omega) (u := 3) (by decide) (by decide)
  have z4 : m__law_take [.obj n, .int 3] h3 = .ok (.int (d : Nat)) h4 := z4
  -- straight or anywhere
  obtain ⟨st, pl, h5, hst, hg, np, lp, S5, C5⟩ : ∃ (st : Bool) (pl : List Fr) (h5 : AH),
      sA (eAn (eCmp gtP (eCall 2 m__law_take (lC (eV 0) (lC (eC (.int 3)) lN))) (eC (.int 0))) (eCB fAll (lC (eLc (iSeq (eV 9)) [12] (gN 12) tY (eAn (eCmp leP (eB itemP (eV 12) (eC (.int 1))) (eC (.int 60))) (eCmp leP (eCB fAbs (lC (eB itemP (eV 12) (eC (.int 0))) lN)) (eC (.int 1000))))) lN))) (gN 10)
        [some (.obj n), some (.obj k), some (.str x), some (.lst (N.names.map P.str)), some (.int (N.coords : Nat)), some (.str a), some (.str b), some (ratP sh), some (rowP (rowLess (N.placeD b) (N.placeD a))), some (rowP row), none, none, none] h3
        = .nx [some (.obj n), some (.obj k), some (.str x), some (.lst (N.names.map P.str)), some (.int (N.coords : Nat)), some (.str a), some (.str b), some (ratP sh), some (rowP (rowLess (N.placeD b) (N.placeD a))), some (rowP row), some (.bl st), none, none] h4 ∧
      sA (eIf (tT (eV 10)) (eV 9) (eCall 2 m__law_net_spot (lC (eV 0) (lC (eV 4) lN)))) (gN 9)
        [some (.obj n), some (.obj k), some (.str x), some (.lst (N.names.map P.str)), some (.int (N.coords : Nat)), some (.str a), some (.str b), some (ratP sh), some (rowP (rowLess (N.placeD b) (N.placeD a))), some (rowP row), some (.bl st), none, none] h4
        = .nx [some (.obj n), some (.obj k), some (.str x), some (.lst (N.names.map P.str)), some (.int (N.coords : Nat)), some (.str a), some (.str b), some (ratP sh), some (rowP (rowLess (N.placeD b) (N.placeD a))), some (rowP pl), some (.bl st), none, none] h5 ∧
      (∀ y ∈ pl, NumOk y) ∧ pl.length = N.coords ∧ St h5 k n p r c N (T + 7) ∧ Chg h4 h5 k n p r c := by
    obtain ⟨q, h5, lq, hq, S5, C5, z5⟩ := st_spot S4 (by omega) c3
    by_cases d0 : d = 0
    · subst d0
      refine ⟨false, q, h5, ?_, ?_, fun y hy => fracT_ok y (hq y hy), lq, S5.mono (by omega), C5⟩
      · simp [z4]
      · exact sA_if (b := false) (h1 := h4) rfl ((eCall2_ok rfl rfl).trans z5)
    · have dp : 0 < d := by omega
      have af := all_fit (h := h4) (t := [some (.obj n), some (.obj k), some (.str x), some (.lst (N.names.map P.str)), some (.int (N.coords : Nat)), some (.str a), some (.str b), some (ratP sh), some (rowP (rowLess (N.placeD b) (N.placeD a))), some (rowP row), none, none, none]) (i := 9) (j := 12) (row := row) rfl rfl (by decide) (by omega)
      have ok : eAn (eCmp gtP (eCall 2 m__law_take (lC (eV 0) (lC (eC (.int 3)) lN))) (eC (.int 0))) (eCB fAll (lC (eLc (iSeq (eV 9)) [12] (gN 12) tY (eAn (eCmp leP (eB itemP (eV 12) (eC (.int 1))) (eC (.int 60))) (eCmp leP (eCB fAbs (lC (eB itemP (eV 12) (eC (.int 0))) lN)) (eC (.int 1000))))) lN))
          [some (.obj n), some (.obj k), some (.str x), some (.lst (N.names.map P.str)), some (.int (N.coords : Nat)), some (.str a), some (.str b), some (ratP sh), some (rowP (rowLess (N.placeD b) (N.placeD a))), some (rowP row), none, none, none] h3 = .ok (.bl (row.all fits60)) h4 := by
        rw [eAn_at, show eCmp gtP (eCall 2 m__law_take (lC (eV 0) (lC (eC (.int 3)) lN))) (eC (.int 0)) [some (.obj n), some (.obj k), some (.str x), some (.lst (N.names.map P.str)), some (.int (N.coords : Nat)), some (.str a), some (.str b), some (ratP sh), some (rowP (rowLess (N.placeD b) (N.placeD a))), some (rowP row), none, none, none] h3 = .ok (.bl true) h4 by simp [z4, dp]]
        exact af
      cases e : row.all fits60 with
      | true =>
        rw [e] at ok
        refine ⟨true, row, h4, ?_, ?_, fun y hy => fits60_ok (r3 y hy) (List.all_eq_true.mp e y hy), l3, S4.mono (by omega), Chg.refl ..⟩
        · rw [sA_at, ok]
          rfl
        · exact sA_if (b := true) (h1 := h4) rfl rfl
      | false =>
        rw [e] at ok
        refine ⟨false, q, h5, ?_, ?_, fun y hy => fracT_ok y (hq y hy), lq, S5.mono (by omega), C5⟩
        · rw [sA_at, ok]
          rfl
        · exact sA_if (b := false) (h1 := h4) rfl ((eCall2_ok rfl rfl).trans z5)
  have V6 := V.addRing hx px np lp (noughts_num N.coords) List.length_replicate
  obtain ⟨S6, C6⟩ := S5.addRing (x, (pl, List.replicate N.coords (0, 1)))
  obtain ⟨e1, e2, e3, e4, e5⟩ := names_more (N := N) (x := x) (z := (pl, List.replicate N.coords (0, 1))) rfl
  have ap := append_at (y := ringT (x, (pl, List.replicate N.coords (0, 1)))) S5.own.hr (by rw [List.length_map]; omega)
  have ml := mul_lst N.coords h5 (by omega)
  have ys : ∃ ys : List Str, (if st = true then [a, b] else [a]) = ys ∧ (∀ y ∈ ys, y ∈ NetR.names { N with rings := N.rings ++ [(x, (pl, List.replicate N.coords (0, 1)))] }) ∧ ys.length ≤ 2 := by
    refine ⟨_, rfl, fun y hy => ?_, ?_⟩
    · rw [e1]
      cases st with
      | true =>
        rcases List.mem_cons.mp hy with q | q
        · exact List.mem_append_left _ (q ▸ ha)
        · rw [List.mem_singleton.mp q]
          exact List.mem_append_left _ hb
      | false =>
        rw [List.mem_singleton.mp hy]
        exact List.mem_append_left _ ha
    · cases st <;> simp
  obtain ⟨ys, eys, hys, lys⟩ := ys
  obtain ⟨M, h', v, zf, S7, C7, V7, q1, q2, q3⟩ := st_ties S6 V6 (by omega) (x := x) (by rw [e1]; simp) (u3 := some (.lst (N.names.map P.str))) (u4 := some (.int (N.coords : Nat))) (u5 := some (.str a)) (u6 := some (.str b)) (u7 := some (ratP sh)) (u8 := some (rowP (rowLess (N.placeD b) (N.placeD a)))) (u9 := some (rowP pl)) (u10 := some (.bl st)) (u11 := none) (u12 := none) hys lys
  have CC := (C1.trans (C2.trans (C3.trans (C4.trans (C5.trans (C6.trans C7))))))
  refine ⟨M, h', mkFn_nx (t := [some (.obj n), some (.obj k), some (.str x), some (.lst (N.names.map P.str)), some (.int (N.coords : Nat)), some (.str a), some (.str b), some (ratP sh), some (rowP (rowLess (N.placeD b) (N.placeD a))), some (rowP pl), some (.bl st), v, none]) ?_ CC.1, S7.mono (by omega), CC, V7, q1, ?_, q3, by rw [q2]; simp⟩
  · unfold b__law_net_ring_drawn
    show (sQ _ _) [some (.obj n), some (.obj k), some (.str x), none, none, none, none, none, none, none, none, none, none] h = _
    refine (sq_nx (t' := [some (.obj n), some (.obj k), some (.str x), some (.lst (N.names.map P.str)), some (.int (N.coords : Nat)), none, none, none, none, none, none, none, none]) (h' := h) ?_).trans ?_
    · simp [nm, own_coords S.own]
    refine (sq_nx (t' := [some (.obj n), some (.obj k), some (.str x), some (.lst (N.names.map P.str)), some (.int (N.coords : Nat)), some (.str a), some (.str b), none, none, none, none, none, none]) (h' := h2) ?_).trans ?_
    · simp [z1, z2]
    refine (sq_nx (t' := [some (.obj n), some (.obj k), some (.str x), some (.lst (N.names.map P.str)), some (.int (N.coords : Nat)), some (.str a), some (.str b), some (ratP sh), none, none, none, none, none]) (h' := h3) ?_).trans ?_
    · have z3 : m__law_of [.obj n, .lst [.tup [.int 1, .int 2], .tup [.int 1, .int 3], .tup [.int 2, .int 3], .tup [.int 1, .int 2], .tup [.int 3, .int 4]]] h2 = .ok (ratP sh) h3 := z3
      simp [z3]
    refine (sq_nx (t' := [some (.obj n), some (.obj k), some (.str x), some (.lst (N.names.map P.str)), some (.int (N.coords : Nat)), some (.str a), some (.str b), some (ratP sh), some (rowP (rowLess (N.placeD b) (N.placeD a))), none, none, none, none]) (h' := h3) ?_).trans ?_
    · simp [pa, pb, w1]
    refine (sq_nx (t' := [some (.obj n), some (.obj k), some (.str x), some (.lst (N.names.map P.str)), some (.int (N.coords : Nat)), some (.str a), some (.str b), some (ratP sh), some (rowP (rowLess (N.placeD b) (N.placeD a))), some (rowP row), none, none, none]) (h' := h3) ?_).trans ?_
    · simp [pa, w2, w3]
    refine (sq_nx hst).trans ?_
    refine (sq_nx hg).trans ?_
    refine (sq_nx (t' := [some (.obj n), some (.obj k), some (.str x), some (.lst (N.names.map P.str)), some (.int (N.coords : Nat)), some (.str a), some (.str b), some (ratP sh), some (rowP (rowLess (N.placeD b) (N.placeD a))), some (rowP pl), some (.bl st), none, none]) (h' := h5.set r (.lst (N.rings.map ringT ++ [ringT (x, (pl, List.replicate N.coords (0, 1)))]))) ?_).trans ?_
    · have tr : P.tup [.str x, rowP pl, .tup ((List.replicate N.coords ((0, 1) : Fr)).map ratP)] = ringT (x, (pl, List.replicate N.coords (0, 1))) := rfl
      simp only [sE_at, eBM_at, eB_at, eC_at, lC_at, lN_at, eTup_at, eCB_at, eLst_at, Out.bind_ok, eV_some (rfl : [some (P.obj n), some (.obj k), some (.str x), some (.lst (N.names.map P.str)), some (.int (N.coords : Nat)), some (.str a), some (.str b), some (ratP sh), some (rowP (rowLess (N.placeD b) (N.placeD a))), some (rowP pl), some (.bl st), none, none][1]? = _), eV_some (rfl : [some (P.obj n), some (.obj k), some (.str x), some (.lst (N.names.map P.str)), some (.int (N.coords : Nat)), some (.str a), some (.str b), some (ratP sh), some (rowP (rowLess (N.placeD b) (N.placeD a))), some (rowP pl), some (.bl st), none, none][2]? = _), eV_some (rfl : [some (P.obj n), some (.obj k), some (.str x), some (.lst (N.names.map P.str)), some (.int (N.coords : Nat)), some (.str a), some (.str b), some (ratP sh), some (rowP (rowLess (N.placeD b) (N.placeD a))), some (rowP pl), some (.bl st), none, none][9]? = _), eV_some (rfl : [some (P.obj n), some (.obj k), some (.str x), some (.lst (N.names.map P.str)), some (.int (N.coords : Nat)), some (.str a), some (.str b), some (ratP sh), some (rowP (rowLess (N.placeD b) (N.placeD a))), some (rowP pl), some (.bl st), none, none][4]? = _), own_rings S5.own, isTy_at S5.own.hr, if_true, List.length_cons, List.length_nil, Nat.reduceAdd, small_true (by decide : 2 ≤ 16777216), small_true (by decide : 1 ≤ 16777216), small_true (by decide : 3 ≤ 16777216), mkL_false, ml, f_tup_lst, tr, ap, Out.toS_ok]
    · rw [sFor_at]
      have si : iSeq (eIf (tT (eV 10)) (eTup (lC (eV 5) (lC (eV 6) lN))) (eTup (lC (eV 5) lN))) [some (.obj n), some (.obj k), some (.str x), some (.lst (N.names.map P.str)), some (.int (N.coords : Nat)), some (.str a), some (.str b), some (ratP sh), some (rowP (rowLess (N.placeD b) (N.placeD a))), some (rowP pl), some (.bl st), none, none] (h5.set r (.lst (N.rings.map ringT ++ [ringT (x, (pl, List.replicate N.coords (0, 1)))]))) = .ok ⟨ys.map P.str, []⟩ (h5.set r (.lst (N.rings.map ringT ++ [ringT (x, (pl, List.replicate N.coords (0, 1)))]))) := by
        rw [← eys]
        cases st <;> simp
      rw [si, Out.toS_ok]
      exact zf
  · have : M.names = NetR.names { N with rings := N.rings ++ [(x, (pl, List.replicate N.coords (0, 1)))] } := by
      unfold NetR.names NetR.pegNames NetR.ringNames
      rw [q1, q2]
    rw [this, e1]
end
end
end K14


/-! own nets with weights -/
namespace K14
open PySem PySem.Spec PyProof.Rows L2 AM
noncomputable section
theorem eDct_ok {l : List (Str × EM)} {t : AM.Loc} {h j : AH} {xs : List P} (e : lD l t (h ++ [.dct []]) = .ok xs (h ++ .dct [] :: j)) (ln : xs.length = l.length) : eDct l t h = .ok (.obj h.length) (h ++ .dct ((keysD l).zip xs) :: j) := by
  unfold eDct
  rw [e, Out.bind_ok, get0]
  dsimp only
  rw [if_pos ln, set0]
section
variable {h : AH} {k n p r c : Nat} {N : NetR} {T : Nat}
theorem St.app {j : AH} (S : St h k n p r c N T) : St (h ++ j) k n p r c N T := ⟨S.own.app, let ⟨o, a, b⟩ := S.pot; ⟨o, get_app a, b⟩⟩
theorem St.other (S : St h k n p r c N T) {f : Nat} {o : O} (f0 : f ≠ k) (f1 : f ≠ n) (f2 : f ≠ p) (f3 : f ≠ r) (f4 : f ≠ c) : St (h.set f o) k n p r c N T :=
  ⟨⟨(set_off f0).trans S.own.own, (set_off f2).trans S.own.hp, (set_off f3).trans S.own.hr, (set_off f4).trans S.own.hc, S.own.pr, S.own.pc, S.own.rc⟩, let ⟨o, a, b⟩ := S.pot; ⟨o, (set_off f1).trans a, b⟩⟩
theorem St.lens (S : St h k n p r c N T) : k < h.length ∧ n < h.length ∧ p < h.length ∧ r < h.length ∧ c < h.length := by
  obtain ⟨o, a, b⟩ := S.pot
  exact ⟨(List.getElem?_eq_some_iff.mp S.own.own).1, (List.getElem?_eq_some_iff.mp a).1, (List.getElem?_eq_some_iff.mp S.own.hp).1, (List.getElem?_eq_some_iff.mp S.own.hr).1, (List.getElem?_eq_some_iff.mp S.own.hc).1⟩
def sameR (a b : List (Str × List Fr × List Fr)) : Prop := a.map (fun z => (z.1, z.2.1)) = b.map fun z => (z.1, z.2.1)
theorem OwnOk.weigh (V : OwnOk N) {R : List (Str × List Fr × List Fr)} (e : sameR R N.rings) (w : ∀ z ∈ R, (∀ x ∈ z.2.2, NumOk x) ∧ z.2.2.length = N.coords) : OwnOk { N with rings := R } := by
  have rn : R.map (·.1) = N.rings.map (·.1) := by
    have z := congrArg (List.map (·.1)) e
    rw [List.map_map, List.map_map] at z
    exact z
  have nm : NetR.names { N with rings := R } = N.names := by
    unfold NetR.names NetR.pegNames NetR.ringNames
    rw [rn]
  have rg : NetR.ringNames { N with rings := R } = N.ringNames := rn
  have pl : ∀ x, NetR.placeD { N with rings := R } x = N.placeD x := fun x => by
    unfold NetR.placeD NetR.place
    have z1 : (R.lookup x).map (·.1) = (N.rings.lookup x).map (·.1) := by
      have y1 := lookup_map (fun z : List Fr × List Fr => z.1) x R
      have y2 := lookup_map (fun z : List Fr × List Fr => z.1) x N.rings
      rw [← y1, ← y2]
      unfold sameR at e
      rw [e]
    dsimp only
    rw [z1]
  refine ⟨V.c1, V.c3, by rw [nm]; exact V.nd, by rw [nm]; exact V.pool, V.peg, fun z hz => ?_, V.nc, fun q hq => ?_, V.pw⟩
  · have hm : (z.1, z.2.1) ∈ N.rings.map fun z => (z.1, z.2.1) := by
      unfold sameR at e
      rw [← e]
      exact List.mem_map.mpr ⟨z, hz, rfl⟩
    obtain ⟨y, hy, ey⟩ := List.mem_map.mp hm
    have e2 : y.2.1 = z.2.1 := congrArg Prod.snd ey
    rw [← e2]
    exact ⟨(V.ring y hy).1, w z hz⟩
  · rw [nm, rg, pl, pl]
    exact V.cord q hq
def pullT : List Fr := [(0, 1), (1, 1), (2, 1), (0, 1), (1, 2)]
theorem pullT_ok : ∀ x ∈ pullT, FrOk 10 x := by
  intro x hx
  have c : x ∈ pullT → 0 < x.2 ∧ x.1.natAbs < 2 ^ 10 ∧ x.2.natAbs < 2 ^ 10 ∧ Int.gcd x.1 x.2 = 1 := by
    revert x
    decide +kernel
  obtain ⟨a, b, c, d⟩ := c hx
  exact ⟨a, b, c, d⟩
/-- pulls for all cords, from a table -/
theorem st_pulls (S : St h k n p r c N T) (lc : N.cords.length ≤ 20) (l : T + 40 < 1000000) {tab : List Fr} (ne : tab ≠ []) (lt : tab.length < 1000000) {t : AM.Loc} {i : Nat} {e : EM}
    (he : ∀ (v : P) (hh : AH), e (t.set i (some v)) hh = m__law_of [.obj n, .lst (tab.map ratP)] hh) :
    ∃ (u : List Fr) (h1 : AH), u.length = N.cords.length ∧ (∀ x ∈ u, x ∈ tab) ∧ St h1 k n p r c N (T + 20) ∧ Chg h h1 k n p r c ∧ lcF ⟨N.cords.map pairP, [c]⟩ h (gN i) tY e t (N.cords.map pairP) [] h = .ok (.lst (u.map ratP)) h1 := by
  obtain ⟨o, a, b⟩ := S.pot
  obtain ⟨n1, n2, n3, n4⟩ := S.own.off a b
  obtain ⟨l1, l2, l3, l4, l5⟩ := S.lens
  obtain ⟨u, o', lu, hu, cu, z⟩ := lc_pot (S := ⟨N.cords.map pairP, [c]⟩) (h := h) (n := n) (g := gN i) (e := e) (t := t) pairP ratP 1 (fun _ => rfl) (fun x => x ∈ tab) a (fun m hm => by
    have hm : m = c := by simpa using hm
    subst hm
    exact ⟨Ne.symm n4, l5⟩) (T + 20) (ys := N.cords) (acc := []) (o := o) (T := T) (by omega) b (by simp; omega)
    (fun y hy acc o1 T1 c1 l1 => by
      have at1 : (h.set n o1 ++ [O.lst acc])[n]? = some o1 := get_app (set_at a)
      obtain ⟨q, o2, hq, c2, z⟩ := cup_of at1 c1 (by omega) (xs := tab.map ratP) (by simpa using ne) (by simpa using lt)
      obtain ⟨x, hx, rfl⟩ := List.mem_map.mp hq
      rw [set_app (set_at a), List.set_set] at z
      exact ⟨_, rfl, x, o2, hx, c2, by rw [he]; exact z⟩)
  rw [set_self a] at z
  exact ⟨u, _, lu, hu, (S.draw (cu.mono (by omega : T + 1 * N.cords.length ≤ T + 20))).1, (S.draw (cu.mono (by omega : T + 1 * N.cords.length ≤ T + 20))).2, z⟩
end
end
end K14


/-! own nets with weights: the walk -/
namespace K14
open PySem PySem.Spec PyProof.Rows L2 AM
noncomputable section
theorem eCall3_ok {f : Fn} {a b d : EM} {t : AM.Loc} {h h1 h2 h3 : AH} {x y z : P} (e1 : a t h = .ok x h1) (e2 : b t h1 = .ok y h2) (e3 : d t h2 = .ok z h3) : eCall 3 f (lC a (lC b (lC d lN))) t h = f [x, y, z] h3 := by simp [e1, e2, e3]
theorem eCall4_ok {f : Fn} {a b d e : EM} {t : AM.Loc} {h h1 h2 h3 h4 : AH} {x y z u : P} (e1 : a t h = .ok x h1) (e2 : b t h1 = .ok y h2) (e3 : d t h2 = .ok z h3) (e4 : e t h3 = .ok u h4) : eCall 4 f (lC a (lC b (lC d (lC e lN)))) t h = f [x, y, z, u] h4 := by simp [e1, e2, e3, e4]
theorem sA_ok {m : EM} {t : AM.Loc} {h h1 : AH} {p : P} {i : Nat} (e : m t h = .ok p h1) : sA m (gN i) t h = .nx (t.set i (some p)) h1 := by simp [e]
theorem sIf_ok {cd : TM} {a b : SM} {t : AM.Loc} {h h1 : AH} {k : Bool} (e : cd t h = .ok k h1) : sIf cd a b t h = if k = true then a t h1 else b t h1 := by rw [sIf_at, e]; rfl
section
variable {h : AH} {k n p r c : Nat} {N : NetR} {T : Nat}
theorem left_fit {m : Nat} {row : List Fr} (hr : RowOk m row) (e : (rowTimes row (-1, 1)).all fits60 = true) : (∀ y ∈ rowTimes row (-1, 1), NumOk y) := fun y hy => fits60_ok ((hr.times (show FrOk 1 (-1, 1) from ⟨by decide, by decide, by decide, by decide⟩)) y hy) (List.all_eq_true.mp e y hy)
theorem times_len (row : List Fr) (b : Fr) : (rowTimes row b).length = row.length := by
  unfold rowTimes
  rw [List.length_map]
/-- one ring's weight -/
theorem st_weight {h : AH} (S : St h k n p r c N T) (V : OwnOk N) (l : T + 5 < 1000000) {d : Nat} {u : List Fr} (lu : u.length = N.cords.length) (hu : RowOk 10 u) {z : Str × List Fr × List Fr} (hz : z ∈ N.rings) {f : Nat} {w8 w9 w10 : Option P} (w10n : w10 = none) :
    ∃ (its : List Fr) (h1 : AH), sQ (sA (eIf (tCp eqP (eV 2) (eC (.int 0))) (eV 7) (eCall 2 m__law_net_spot (lC (eV 0) (lC (eB itemP (eV 1) (eC (.str "coords"))) lN)))) (gN 8))
      (sIf (tCp gtP (eV 2) (eC (.int 1))) (sQ (sA (eCall 2 m__law_row_times (lC (eCall 4 m__law_net_left (lC (eV 1) (lC (eV 3) (lC (eV 5) (lC (eC (.bl false)) lN))))) (lC (eTup (lC (eU vNeg (eC (.int 1))) (lC (eC (.int 1)) lN))) lN))) (gN 8))
        (sA (eIf (tT (eCB fAll (lC (eLc (iSeq (eV 8)) [10] (gN 10) tY (eAn (eCmp leP (eB itemP (eV 10) (eC (.int 1))) (eC (.int 60))) (eCmp leP (eCB fAbs (lC (eB itemP (eV 10) (eC (.int 0))) lN)) (eC (.int 1000))))) lN))) (eV 8) (eV 7)) (gN 8))) sNx)
      [some (.obj n), some (.obj k), some (.int (d : Nat)), some (.lst (u.map ratP)), some (.obj f), some (.str z.1), some (rowP z.2.1), some (rowP z.2.2), w8, w9, w10] h
      = .nx [some (.obj n), some (.obj k), some (.int (d : Nat)), some (.lst (u.map ratP)), some (.obj f), some (.str z.1), some (rowP z.2.1), some (rowP z.2.2), some (rowP its), w9, w10] h1 ∧ St h1 k n p r c N (T + 3) ∧ Chg h h1 k n p r c ∧ (∀ x ∈ its, NumOk x) ∧ its.length = N.coords := by
  subst w10n
  obtain ⟨zr, zw⟩ := V.ring z hz
  have zin : z.1 ∈ N.names := List.mem_append_right _ (List.mem_map.mpr ⟨z, hz, rfl⟩)
  obtain ⟨q, h1, lq, hq, S1, C1, z1⟩ := st_spot S (by omega) V.c3
  have nc := V.nc
  have c3 := V.c3
  by_cases d0 : d = 0
  · subst d0
    refine ⟨z.2.2, h, ?_, S.mono (by omega), Chg.refl .., zw⟩
    refine (sq_nx (t' := [some (.obj n), some (.obj k), some (.int ((0 : Nat) : Int)), some (.lst (u.map ratP)), some (.obj f), some (.str z.1), some (rowP z.2.1), some (rowP z.2.2), some (rowP z.2.2), w9, none]) (h' := h) (sA_if (b := true) (h1 := h) rfl rfl)).trans ?_
    exact sIf_ok (k := false) rfl
  · have e0 : tCp eqP (eV 2) (eC (.int 0)) [some (.obj n), some (.obj k), some (.int (d : Nat)), some (.lst (u.map ratP)), some (.obj f), some (.str z.1), some (rowP z.2.1), some (rowP z.2.2), w8, w9, none] h = .ok false h := by
      have : ((d : Int) == 0) = false := beq_eq_false_iff_ne.mpr (by omega)
      simp [this]
    have s1 : sA (eIf (tCp eqP (eV 2) (eC (.int 0))) (eV 7) (eCall 2 m__law_net_spot (lC (eV 0) (lC (eB itemP (eV 1) (eC (.str "coords"))) lN)))) (gN 8) [some (.obj n), some (.obj k), some (.int (d : Nat)), some (.lst (u.map ratP)), some (.obj f), some (.str z.1), some (rowP z.2.1), some (rowP z.2.2), w8, w9, none] h
        = .nx [some (.obj n), some (.obj k), some (.int (d : Nat)), some (.lst (u.map ratP)), some (.obj f), some (.str z.1), some (rowP z.2.1), some (rowP z.2.2), some (rowP q), w9, none] h1 :=
      sA_if (b := false) (h1 := h) e0 ((eCall2_ok rfl (show eB itemP (eV 1) (eC (.str "coords")) _ h = _ by rw [eB_at, eV_some (rfl : [some (P.obj n), some (.obj k), some (.int (d : Nat)), some (.lst (u.map ratP)), some (.obj f), some (.str z.1), some (rowP z.2.1), some (rowP z.2.2), w8, w9, none][1]? = _), Out.bind_ok, eC_at, Out.bind_ok]; exact own_coords S.own)).trans z1)
    by_cases d1 : d = 1
    · subst d1
      refine ⟨q, h1, ?_, S1, C1, fun y hy => fracT_ok y (hq y hy), lq⟩
      refine (sq_nx s1).trans ?_
      exact sIf_ok (k := false) rfl
    · have g1 : tCp gtP (eV 2) (eC (.int 1)) [some (.obj n), some (.obj k), some (.int (d : Nat)), some (.lst (u.map ratP)), some (.obj f), some (.str z.1), some (rowP z.2.1), some (rowP z.2.2), some (rowP q), w9, none] h1 = .ok true h1 := by
        have : (1 : Int) < (d : Int) := by omega
        simp
        omega
      have ml : u.length * (22 + 10) ≤ 9 * (22 + 10) := Nat.mul_le_mul_right _ (by omega)
      obtain ⟨lf, rl, ll⟩ := own_left S1.own V.net zin (w := false) (by simp) hu (by omega) (by omega) (.inl rfl)
      have rt := o_row_times h1 rl (show FrOk 1 (-1, 1) from ⟨by decide, by decide, by decide, by decide⟩) (by omega) (by omega)
      have s2 : sA (eCall 2 m__law_row_times (lC (eCall 4 m__law_net_left (lC (eV 1) (lC (eV 3) (lC (eV 5) (lC (eC (.bl false)) lN))))) (lC (eTup (lC (eU vNeg (eC (.int 1))) (lC (eC (.int 1)) lN))) lN))) (gN 8) [some (.obj n), some (.obj k), some (.int (d : Nat)), some (.lst (u.map ratP)), some (.obj f), some (.str z.1), some (rowP z.2.1), some (rowP z.2.2), some (rowP q), w9, none] h1
          = .nx [some (.obj n), some (.obj k), some (.int (d : Nat)), some (.lst (u.map ratP)), some (.obj f), some (.str z.1), some (rowP z.2.1), some (rowP z.2.2), some (rowP (rowTimes (N.leftD u z.1 false) (-1, 1))), w9, none] h1 :=
        sA_ok ((eCall2_ok ((eCall4_ok rfl rfl rfl rfl).trans lf) (show eTup _ _ h1 = .ok (ratP (-1, 1)) h1 from rfl)).trans rt)
      have tl : (rowTimes (N.leftD u z.1 false) (-1, 1)).length = N.coords := by rw [times_len, ll]
      have af := all_fit (h := h1) (t := [some (.obj n), some (.obj k), some (.int (d : Nat)), some (.lst (u.map ratP)), some (.obj f), some (.str z.1), some (rowP z.2.1), some (rowP z.2.2), some (rowP (rowTimes (N.leftD u z.1 false) (-1, 1))), w9, none]) (i := 8) (j := 10) (row := rowTimes (N.leftD u z.1 false) (-1, 1)) rfl rfl (by decide) (by omega)
      have af2 : tT (eCB fAll (lC (eLc (iSeq (eV 8)) [10] (gN 10) tY (eAn (eCmp leP (eB itemP (eV 10) (eC (.int 1))) (eC (.int 60))) (eCmp leP (eCB fAbs (lC (eB itemP (eV 10) (eC (.int 0))) lN)) (eC (.int 1000))))) lN)) [some (.obj n), some (.obj k), some (.int (d : Nat)), some (.lst (u.map ratP)), some (.obj f), some (.str z.1), some (rowP z.2.1), some (rowP z.2.2), some (rowP (rowTimes (N.leftD u z.1 false) (-1, 1))), w9, none] h1 = .ok ((rowTimes (N.leftD u z.1 false) (-1, 1)).all fits60) h1 := by
        rw [tT_at, af]
        rfl
      cases e : (rowTimes (N.leftD u z.1 false) (-1, 1)).all fits60 with
      | true =>
        rw [e] at af2
        refine ⟨rowTimes (N.leftD u z.1 false) (-1, 1), h1, ?_, S1, C1, left_fit rl e, tl⟩
        refine (sq_nx s1).trans ?_
        refine (sIf_ok g1).trans ?_
        rw [if_pos rfl]
        refine (sq_nx s2).trans ?_
        exact sA_if (b := true) (h1 := h1) af2 rfl
      | false =>
        rw [e] at af2
        refine ⟨z.2.2, h1, ?_, S1, C1, zw⟩
        refine (sq_nx s1).trans ?_
        refine (sIf_ok g1).trans ?_
        rw [if_pos rfl]
        refine (sq_nx s2).trans ?_
        exact sA_if (b := false) (h1 := h1) af2 rfl
end
end
end K14


/-! own nets with weights: whole -/
namespace K14
open PySem PySem.Spec PyProof.Rows L2 AM
noncomputable section
theorem sfor_ok {i : IM} {g : GM} {b : SM} {t : AM.Loc} {h h1 : AH} {S : Src} (e : i t h = .ok S h1) : sFor i g b t h = forP S h1 g b S.xs t h1 := by rw [sFor_at, e]; rfl
section
variable {h : AH} {k n p r c : Nat} {N : NetR} {T : Nat}
theorem st_weighs {h0 : AH} (S0 : St h0 k n p r c N T) (V : OwnOk N) (l : T + 50 < 1000000) {d : Nat} {u : List Fr} (lu : u.length = N.cords.length) (hu : RowOk 10 u) {f : Nat} (f0 : f ≠ k) (f1 : f ≠ n) (f2 : f ≠ p) (f3 : f ≠ r) (f4 : f ≠ c) (at_ : h0[f]? = some (.lst [])) {w5 w6 w7 w8 w9 : Option P} :
    ∃ (R : List (Str × List Fr × List Fr)) (h1 : AH) (t1 : AM.Loc), forP ⟨N.rings.map ringT, [r]⟩ h0 (gT 3 (gsC (gN 5) (gsC (gN 6) (gsC (gN 7) gsN)))) (sQ (sA (eIf (tCp eqP (eV 2) (eC (.int 0))) (eV 7) (eCall 2 m__law_net_spot (lC (eV 0) (lC (eB itemP (eV 1) (eC (.str "coords"))) lN)))) (gN 8))
      (sQ (sIf (tCp gtP (eV 2) (eC (.int 1))) (sQ (sA (eCall 2 m__law_row_times (lC (eCall 4 m__law_net_left (lC (eV 1) (lC (eV 3) (lC (eV 5) (lC (eC (.bl false)) lN))))) (lC (eTup (lC (eU vNeg (eC (.int 1))) (lC (eC (.int 1)) lN))) lN))) (gN 8))
        (sA (eIf (tT (eCB fAll (lC (eLc (iSeq (eV 8)) [10] (gN 10) tY (eAn (eCmp leP (eB itemP (eV 10) (eC (.int 1))) (eC (.int 60))) (eCmp leP (eCB fAbs (lC (eB itemP (eV 10) (eC (.int 0))) lN)) (eC (.int 1000))))) lN))) (eV 8) (eV 7)) (gN 8))) sNx)
      (sE (eBM "list" mAppend (eV 4) (lC (eTup (lC (eV 5) (lC (eV 6) (lC (eV 8) lN)))) lN))))) (N.rings.map ringT)
      [some (.obj n), some (.obj k), some (.int (d : Nat)), some (.lst (u.map ratP)), some (.obj f), w5, w6, w7, w8, w9, none] h0 = .nx t1 h1 ∧ t1[1]? = some (some (.obj k)) ∧ t1[4]? = some (some (.obj f)) ∧ St h1 k n p r c N (T + 24) ∧ h1[f]? = some (.lst (R.map ringT)) ∧ h1.length = h0.length ∧ (∀ i, i ≠ k → i ≠ n → i ≠ p → i ≠ r → i ≠ c → i ≠ f → h1[i]? = h0[i]?) ∧
      sameR R N.rings ∧ (∀ z ∈ R, (∀ x ∈ z.2.2, NumOk x) ∧ z.2.2.length = N.coords) := by
  have fw := V.few
  obtain ⟨t2, h2, e2, R, w5, w6, w7, w8, rfl, S2, a2, L2, K2, s2, n2⟩ := for_steps (S := ⟨N.rings.map ringT, [r]⟩) (h0 := h0) (g := gT 3 (gsC (gN 5) (gsC (gN 6) (gsC (gN 7) gsN)))) (b := sQ (sA (eIf (tCp eqP (eV 2) (eC (.int 0))) (eV 7) (eCall 2 m__law_net_spot (lC (eV 0) (lC (eB itemP (eV 1) (eC (.str "coords"))) lN)))) (gN 8))
      (sQ (sIf (tCp gtP (eV 2) (eC (.int 1))) (sQ (sA (eCall 2 m__law_row_times (lC (eCall 4 m__law_net_left (lC (eV 1) (lC (eV 3) (lC (eV 5) (lC (eC (.bl false)) lN))))) (lC (eTup (lC (eU vNeg (eC (.int 1))) (lC (eC (.int 1)) lN))) lN))) (gN 8))
        (sA (eIf (tT (eCB fAll (lC (eLc (iSeq (eV 8)) [10] (gN 10) tY (eAn (eCmp leP (eB itemP (eV 10) (eC (.int 1))) (eC (.int 60))) (eCmp leP (eCB fAbs (lC (eB itemP (eV 10) (eC (.int 0))) lN)) (eC (.int 1000))))) lN))) (eV 8) (eV 7)) (gN 8))) sNx)
      (sE (eBM "list" mAppend (eV 4) (lC (eTup (lC (eV 5) (lC (eV 6) (lC (eV 8) lN)))) lN)))))
    ringT (fun i t H => ∃ (R : List (Str × List Fr × List Fr)) (w5 w6 w7 w8 : Option P), t = [some (.obj n), some (.obj k), some (.int (d : Nat)), some (.lst (u.map ratP)), some (.obj f), w5, w6, w7, w8, w9, none] ∧ St H k n p r c N (T + 3 * i) ∧ H[f]? = some (.lst (R.map ringT)) ∧ H.length = h0.length ∧ (∀ i, i ≠ k → i ≠ n → i ≠ p → i ≠ r → i ≠ c → i ≠ f → H[i]? = h0[i]?) ∧ sameR R (N.rings.take i) ∧ (∀ z ∈ R, (∀ x ∈ z.2.2, NumOk x) ∧ z.2.2.length = N.coords))
    (fun i t H ⟨R, _, _, _, _, _, S, _⟩ m hm => by
      have hm : m = r := by simpa using hm
      subst hm
      rw [S.own.hr, S0.own.hr]) (ys := N.rings) (i := 0)
    (fun j z ez t H ⟨R, w5, w6, w7, w8, et, S, af, LH, KH, sR, nR⟩ => by
      subst et
      rw [Nat.zero_add] at S sR ⊢
      have jl : j < N.rings.length := (List.getElem?_eq_some_iff.mp ez).1
      have hz := List.mem_of_getElem? ez
      obtain ⟨its, H1, e1, S1, C1, o1, o2⟩ := st_weight S V (by omega) (d := d) lu hu hz (f := f) (w8 := w8) (w9 := w9) (w10 := none) rfl
      have af1 : H1[f]? = some (.lst (R.map ringT)) := (C1.2 f f0 f1 f2 f3 f4).trans af
      have lR : R.length = j := by
        have q := congrArg List.length sR
        rw [List.length_map, List.length_map, List.length_take] at q
        omega
      have ap := append_at (y := ringT (z.1, z.2.1, its)) af1 (by rw [List.length_map]; omega)
      refine ⟨[some (.obj n), some (.obj k), some (.int (d : Nat)), some (.lst (u.map ratP)), some (.obj f), some (.str z.1), some (rowP z.2.1), some (rowP z.2.2), w8, w9, none], rfl, [some (.obj n), some (.obj k), some (.int (d : Nat)), some (.lst (u.map ratP)), some (.obj f), some (.str z.1), some (rowP z.2.1), some (rowP z.2.2), some (rowP its), w9, none], H1.set f (.lst (R.map ringT ++ [ringT (z.1, z.2.1, its)])), ?_,
        R ++ [(z.1, z.2.1, its)], _, _, _, _, rfl, (S1.other f0 f1 f2 f3 f4).mono (by omega), ?_, ?_, fun i i0 i1 i2 i3 i4 i5 => ?_, ?_, fun q hq => ?_⟩
      · have bd : ∀ (A B C : SM) (t t2 t3 : AM.Loc) (h h2 h3 : AH), sQ A B t h = .nx t2 h2 → C t2 h2 = .nx t3 h3 → sQ A (sQ B C) t h = .nx t3 h3 := fun A B C t t2 t3 h h2 h3 q1 q2 => by
          rw [sQ_at] at q1 ⊢
          cases qa : A t h with
          | nx t' h' =>
            rw [qa] at q1
            have q1 : B t' h' = _ := q1
            show (B t' h').seq C = _
            rw [q1]
            exact q2
          | _ => rw [qa] at q1; cases q1
        refine bd _ _ _ _ _ _ _ _ _ e1 ?_
        simp [isTy_at af1]
        have rt : P.tup [.str z.1, rowP z.2.1, rowP its] = ringT (z.1, z.2.1, its) := rfl
        rw [rt, ap]
        rfl
      · rw [set_at af1, List.map_append]
        rfl
      · rw [List.length_set, C1.1, LH]
      · rw [set_off (Ne.symm i5), C1.2 i i0 i1 i2 i3 i4]
        exact KH i i0 i1 i2 i3 i4 i5
      · unfold sameR at sR ⊢
        rw [List.take_succ, ez, List.map_append, List.map_append, sR]
        rfl
      · rcases List.mem_append.mp hq with q1 | q1
        · exact nR q q1
        · rw [List.mem_singleton.mp q1]
          exact ⟨o1, o2⟩) [some (.obj n), some (.obj k), some (.int (d : Nat)), some (.lst (u.map ratP)), some (.obj f), w5, w6, w7, w8, w9, none] h0 ⟨[], _, _, _, _, rfl, S0.mono (by omega), at_, rfl, fun _ _ _ _ _ _ _ => rfl, rfl, fun z hz => by cases hz⟩
  rw [Nat.zero_add, List.take_of_length_le (Nat.le_refl _)] at s2
  exact ⟨R, h2, _, e2, rfl, rfl, S2.mono (by omega), a2, L2, K2, s2, n2⟩
theorem st_weighed (S : St h k n p r c N T) (V : OwnOk N) (l : T + 100 < 1000000) :
    ∃ (M : NetR) (h' : AH), m__law_net_weighed [.obj n, .obj k] h = .ok (.obj (h.length + 1)) h' ∧ St h' (h.length + 1) n p h.length c M (T + 50) ∧ OwnOk M ∧ M.pegs = N.pegs ∧ sameR M.rings N.rings ∧ M.cords = N.cords ∧ M.coords = N.coords ∧ (∀ i, i < h.length → i ≠ k → i ≠ n → i ≠ p → i ≠ r → i ≠ c → h'[i]? = h[i]?) ∧ h.length + 1 < h'.length := by
  have fw := V.few
  have nc := V.nc
  obtain ⟨d, h1, hd, S1, C1, z1⟩ := st_take S (by omega) (u := 4) (by decide) (by decide)
  have z1 : m__law_take [.obj n, .int 4] h = .ok (.int (d : Nat)) h1 := z1
  obtain ⟨u, h2, lu, hu, S2, C2, z2⟩ := st_pulls S1 (by omega) (by omega) (tab := pullT) (by decide) (by decide) (t := [some (.obj n), some (.obj k), some (.int (d : Nat)), none, none, none, none, none, none, none, none]) (i := 9)
    (e := eCall 2 m__law_of (lC (eV 0) (lC (eLst false (lC (eTup (lC (eC (.int 0)) (lC (eC (.int 1)) lN))) (lC (eTup (lC (eC (.int 1)) (lC (eC (.int 1)) lN))) (lC (eTup (lC (eC (.int 2)) (lC (eC (.int 1)) lN))) (lC (eTup (lC (eC (.int 0)) (lC (eC (.int 1)) lN))) (lC (eTup (lC (eC (.int 1)) (lC (eC (.int 2)) lN))) lN)))))) lN)))
    (fun v hh => eCall2_ok rfl rfl)
  have hl1 := C1.1
  have hl2 := C2.1
  have hll : h2.length = h.length := hl2.trans hl1
  obtain ⟨q1, q2, q3, q4, q5⟩ := S2.lens
  obtain ⟨R, h3, t3, z3, t31, t34, S3, a3, L3, K3, sR, nR⟩ := st_weighs (h0 := h2 ++ [.lst []]) S2.app V (by omega) (d := d) lu (fun x hx => pullT_ok x (hu x hx)) (f := h2.length) (by omega) (by omega) (by omega) (by omega) (by omega) (by simp) (w5 := none) (w6 := none) (w7 := none) (w8 := none) (w9 := none)
  have VM := V.weigh sR nR
  have l3 : h3.length = h.length + 1 := by rw [L3, List.length_append, hll]; rfl
  rw [hll] at a3 t34
  obtain ⟨o, po, cu⟩ := S3.pot
  have dct : eDct [("coords", (eB itemP (eV 1) (eC (.str "coords")))), ("pegs", (eB itemP (eV 1) (eC (.str "pegs")))), ("rings", (eV 4)), ("cords", (eB itemP (eV 1) (eC (.str "cords"))))] t3 h3 = .ok (.obj h3.length) (h3 ++ [.dct [(.inr "coords", .int (N.coords : Nat)), (.inr "pegs", .obj p), (.inr "rings", .obj h.length), (.inr "cords", .obj c)]]) := by
    have D := S3.own.app (j := [O.dct []])
    have z := eDct_ok (l := [("coords", (eB itemP (eV 1) (eC (.str "coords")))), ("pegs", (eB itemP (eV 1) (eC (.str "pegs")))), ("rings", (eV 4)), ("cords", (eB itemP (eV 1) (eC (.str "cords"))))]) (t := t3) (h := h3) (j := []) (xs := [.int (N.coords : Nat), .obj p, .obj h.length, .obj c]) (by
      show lC _ (lC _ (lC _ (lC _ lN))) t3 (h3 ++ [.dct []]) = _
      simp [eV_some t31, eV_some t34, own_coords D, own_pegs D, own_cords D]) rfl
    exact z
  refine ⟨{ N with rings := R }, h3 ++ [.dct [(.inr "coords", .int (N.coords : Nat)), (.inr "pegs", .obj p), (.inr "rings", .obj h.length), (.inr "cords", .obj c)]], ?_, ⟨⟨?_, get_app S3.own.hp, get_app a3, get_app S3.own.hc, ?_, S3.own.pc, ?_⟩, o, get_app po, cu.mono (by omega)⟩, VM, rfl, sR, rfl, rfl, fun i il i0 i1 i2 i3 i4 => ?_, ?_⟩
  · have bd : b__law_net_weighed [some (.obj n), some (.obj k), none, none, none, none, none, none, none, none, none] h = .rt (.obj (h.length + 1)) (h3 ++ [.dct [(.inr "coords", .int (N.coords : Nat)), (.inr "pegs", .obj p), (.inr "rings", .obj h.length), (.inr "cords", .obj c)]]) := by
      unfold b__law_net_weighed
      refine (sq_nx (t' := [some (.obj n), some (.obj k), some (.int (d : Nat)), none, none, none, none, none, none, none, none]) (h' := h1) (sA_ok ((eCall2_ok rfl rfl).trans z1))).trans ?_
      refine (sq_nx (t' := [some (.obj n), some (.obj k), some (.int (d : Nat)), some (.lst (u.map ratP)), none, none, none, none, none, none, none]) (h' := h2) (sA_ok ?_)).trans ?_
      · rw [eLc_at, iSeq_at, eB_at, eV_some (rfl : [some (P.obj n), some (.obj k), some (.int (d : Nat)), none, none, none, none, none, none, none, none][1]? = _), Out.bind_ok, eC_at, Out.bind_ok, own_cords S1.own, Out.bind_ok, src_obj S1.own.hc, Out.bind_ok]
        exact z2
      refine (sq_nx (t' := [some (.obj n), some (.obj k), some (.int (d : Nat)), some (.lst (u.map ratP)), some (.obj h2.length), none, none, none, none, none, none]) (h' := h2 ++ [.lst []]) (sA_ok (by simp))).trans ?_
      refine (sq_nx (t' := t3) (h' := h3) ?_).trans ?_
      · have Sx : St (h2 ++ [O.lst []]) k n p r c N (T + 1 + 20) := S2.app
        refine (sfor_ok (S := ⟨N.rings.map ringT, [r]⟩) (h1 := h2 ++ [.lst []]) ?_).trans z3
        rw [iSeq_at, eB_at, eV_some (rfl : [some (P.obj n), some (.obj k), some (.int (d : Nat)), some (.lst (u.map ratP)), some (.obj h2.length), none, none, none, none, none, none][1]? = _), Out.bind_ok, eC_at, Out.bind_ok, own_rings Sx.own, Out.bind_ok, src_obj Sx.own.hr]
      · rw [sR_at, dct, l3]
        rfl
    show mkFn _ b__law_net_weighed _ _ = _
    unfold mkFn
    rw [show ([P.obj n, .obj k].map some ++ List.replicate (N__law_net_weighed.length - [P.obj n, .obj k].length) none) = [some (.obj n), some (.obj k), none, none, none, none, none, none, none, none, none] from rfl, bd]
    show Out.ok (P.obj (h.length + 1)) (trim h (.obj (h.length + 1)) _) = _
    unfold trim
    rw [if_neg]
    rintro ⟨z, _⟩
    have z : decide (h.length + 1 < h.length) = true := z
    have := of_decide_eq_true z
    omega
  · rw [← l3]
    simp
  · intro e
    have := S.lens.2.2.1
    omega
  · intro e
    have := S.lens.2.2.2.2
    omega
  · rw [List.getElem?_append_left (by omega), K3 i i0 i1 i2 i3 i4 (by omega), List.getElem?_append_left (by omega), C2.2 i i0 i1 i2 i3 i4, C1.2 i i0 i1 i2 i3 i4]
  · rw [List.length_append, l3]
    simp
end
end
end K14


/-! own nets: the draw's loops -/
namespace K14
open PySem PySem.Spec PyProof.Rows L2 AM
noncomputable section
theorem sE_append {mo a : EM} {t : AM.Loc} {h h1 : AH} {x : Nat} {xs ys : List P} {y : P} (e1 : mo t h = .ok (.obj x) h) (ty : h[x]? = some (.lst xs)) (e2 : a t h = .ok y h1) (e3 : h1[x]? = some (.lst ys)) (l : ys.length < 16777216) : sE (eBM "list" mAppend mo (lC a lN)) t h = .nx t (h1.set x (.lst (ys ++ [y]))) := by
  rw [sE_at, eBM_at, e1, Out.bind_ok, if_pos (isTy_at ty), lC_at, e2, Out.bind_ok, lN_at, Out.bind_ok, Out.bind_ok, append_at e3 l]
  rfl
theorem eTup2_ok {a b : EM} {t : AM.Loc} {h h1 h2 : AH} {x y : P} (e1 : a t h = .ok x h1) (e2 : b t h1 = .ok y h2) : eTup (lC a (lC b lN)) t h = .ok (.tup [x, y]) h2 := by
  rw [eTup_at, lC_at, e1, Out.bind_ok, lC_at, e2, Out.bind_ok, lN_at, Out.bind_ok, Out.bind_ok, Out.bind_ok]
  exact if_pos (small_true (show 2 ≤ 16777216 by decide))
theorem slice_obj {h : AH} {m : Nat} {xs : List P} {lo hi : Option Int} (e : h[m]? = some (.lst xs)) : sliceP false (.obj m) lo hi h = .ok (.lst (cutP xs lo hi)) h := by
  show (match lstOf h (.obj m) with
    | some xs => mkL false (cutP xs lo hi) h
    | none => .bad) = _
  rw [lstOf_obj e]
  rfl
theorem far_symm {a b : Str × Str} (h : far a b) : far b a := by
  refine ⟨fun e => h.1 e.symm, fun e => h.2 ?_⟩
  rw [← e]
section
variable {h : AH} {k n p r c : Nat} {N : NetR} {T : Nat}
theorem eItem_ok {i : Nat} {s : Str} {t : AM.Loc} {x : Nat} {q : P} (et : t[i]? = some (some (.obj x))) (e : itemP (.obj x) (.str s) h = .ok q h) : eB itemP (eV i) (eC (.str s)) t h = .ok q h := by
  rw [eB_at, eV_some et, Out.bind_ok, eC_at, Out.bind_ok, e]
/-- the loop that draws pegs -/
theorem st_pegs {m : Nat} (m3 : m ≤ 3) (S : St h k n p r c ⟨"", m, [], [], []⟩ T) (l : T + 50 < 1000000) {ys : List Str} (ly : ys.length ≤ 4) {w1 w3 w5 w6 w7 w8 w9 : Option P} :
    ∃ (pegs : List (Str × List Fr)) (h1 : AH) (v : Option P), forP ⟨ys.map P.str, []⟩ h (gN 5) (sE (eBM "list" mAppend (eB itemP (eV 4) (eC (.str "pegs"))) (lC (eTup (lC (eV 5) (lC (eCall 2 m__law_net_spot (lC (eV 0) (lC (eV 2) lN))) lN))) lN))) (ys.map P.str) [some (.obj n), w1, some (.int (m : Nat)), w3, some (.obj k), w5, w6, w7, w8, w9] h
      = .nx [some (.obj n), w1, some (.int (m : Nat)), w3, some (.obj k), v, w6, w7, w8, w9] h1 ∧ St h1 k n p r c ⟨"", m, pegs, [], []⟩ (T + 12) ∧ Chg h h1 k n p r c ∧ pegs.map (·.1) = ys ∧ ∀ z ∈ pegs, (∀ x ∈ z.2, NumOk x) ∧ z.2.length = m := by
  obtain ⟨t2, h2, e2, pegs, v, rfl, S2, C2, n2, o2⟩ := for_steps (S := ⟨ys.map P.str, []⟩) (h0 := h) (g := gN 5) (b := sE (eBM "list" mAppend (eB itemP (eV 4) (eC (.str "pegs"))) (lC (eTup (lC (eV 5) (lC (eCall 2 m__law_net_spot (lC (eV 0) (lC (eV 2) lN))) lN))) lN)))
    P.str (fun i t H => ∃ (pegs : List (Str × List Fr)) (v : Option P), t = [some (.obj n), w1, some (.int (m : Nat)), w3, some (.obj k), v, w6, w7, w8, w9] ∧ St H k n p r c ⟨"", m, pegs, [], []⟩ (T + 3 * i) ∧ Chg h H k n p r c ∧ pegs.map (·.1) = ys.take i ∧ ∀ z ∈ pegs, (∀ x ∈ z.2, NumOk x) ∧ z.2.length = m)
    (fun i t H _ => (still_none _ _ _).mpr trivial) (ys := ys) (i := 0)
    (fun j y ey t H ⟨pegs, v, et, S, C, nm, ok⟩ => by
      subst et
      rw [Nat.zero_add] at S nm ⊢
      have jl := (List.getElem?_eq_some_iff.mp ey).1
      obtain ⟨q, H1, lq, hq, S1, C1, z1⟩ := st_spot S (by omega) m3
      have lp : pegs.length ≤ 4 := by
        have z := congrArg List.length nm
        rw [List.length_map, List.length_take] at z
        omega
      obtain ⟨S2, C2⟩ := S1.addPeg (y, q)
      refine ⟨[some (.obj n), w1, some (.int (m : Nat)), w3, some (.obj k), some (.str y), w6, w7, w8, w9], rfl, [some (.obj n), w1, some (.int (m : Nat)), w3, some (.obj k), some (.str y), w6, w7, w8, w9], _, sE_append (eItem_ok rfl (own_pegs S.own)) S.own.hp (eTup2_ok rfl ((eCall2_ok rfl rfl).trans z1)) S1.own.hp (by rw [List.length_map]; show pegs.length < _; omega), pegs ++ [(y, q)], _, rfl, S2.mono (by omega), C.trans (C1.trans C2), ?_, fun z hz => ?_⟩
      · rw [List.map_append, nm, List.take_succ, ey]
        rfl
      · rcases List.mem_append.mp hz with q1 | q1
        · exact ok z q1
        · rw [List.mem_singleton.mp q1]
          exact ⟨fun x hx => fracT_ok x (hq x hx), lq⟩) [some (.obj n), w1, some (.int (m : Nat)), w3, some (.obj k), w5, w6, w7, w8, w9] h ⟨[], _, rfl, S.mono (by omega), Chg.refl .., rfl, fun z hz => by cases hz⟩
  rw [Nat.zero_add, List.take_of_length_le (Nat.le_refl _)] at n2
  exact ⟨pegs, h2, v, e2, S2.mono (by omega), C2, n2, o2⟩
theorem take_new {ys : List Str} (nd : ys.Nodup) {j : Nat} {x : Str} (e : ys[j]? = some x) : x ∉ ys.take j ∧ ys.take (j + 1) = ys.take j ++ [x] := by
  have z : ys.take (j + 1) = ys.take j ++ [x] := by rw [List.take_succ, e]; rfl
  refine ⟨fun m => ?_, z⟩
  have nd2 : (ys.take (j + 1)).Nodup := (List.take_sublist _ _).nodup nd
  rw [z, List.nodup_append] at nd2
  exact nd2.2.2 x m x (by simp) rfl
/-- the loop that draws rings -/
theorem st_rings (S : St h k n p r c N T) (V : OwnOk N) (hp : N.pegs ≠ []) (r0 : N.rings = []) (l : T + 200 < 1000000) {zs : List Str} (nd : zs.Nodup) (pool : ∀ x ∈ zs, x ∈ poolN) {a m : Nat} (en : N.names = zs.take a) (la : zs.length ≤ 8) {w1 w2 w3 w5 w6 w7 w8 w9 : Option P} :
    ∃ (M : NetR) (h1 : AH) (v : Option P), forP ⟨((zs.drop a).take m).map P.str, []⟩ h (gN 5) (sE (eCall 3 m__law_net_ring_drawn (lC (eV 0) (lC (eV 4) (lC (eV 5) lN))))) (((zs.drop a).take m).map P.str) [some (.obj n), w1, w2, w3, some (.obj k), w5, w6, w7, w8, w9] h
      = .nx [some (.obj n), w1, w2, w3, some (.obj k), v, w6, w7, w8, w9] h1 ∧ St h1 k n p r c M (T + 96) ∧ Chg h h1 k n p r c ∧ OwnOk M ∧ M.pegs = N.pegs ∧ M.rings.length ≤ m := by
  obtain ⟨t2, h2, e2, M, v, rfl, S2, C2, V2, p2, n2, r2⟩ := for_steps (S := ⟨((zs.drop a).take m).map P.str, []⟩) (h0 := h) (g := gN 5) (b := sE (eCall 3 m__law_net_ring_drawn (lC (eV 0) (lC (eV 4) (lC (eV 5) lN)))))
    P.str (fun i t H => ∃ (M : NetR) (v : Option P), t = [some (.obj n), w1, w2, w3, some (.obj k), v, w6, w7, w8, w9] ∧ St H k n p r c M (T + 12 * i) ∧ Chg h H k n p r c ∧ OwnOk M ∧ M.pegs = N.pegs ∧ M.names = zs.take (a + i) ∧ M.rings.length = i)
    (fun i t H _ => (still_none _ _ _).mpr trivial) (ys := (zs.drop a).take m) (i := 0)
    (fun j y ey t H ⟨M, v, et, S, C, V, hp2, nm, rl⟩ => by
      subst et
      rw [Nat.zero_add] at S nm rl ⊢
      have jl := (List.getElem?_eq_some_iff.mp ey).1
      rw [List.length_take, List.length_drop] at jl
      have ey2 : zs[a + j]? = some y := by
        rw [List.getElem?_take, if_pos (by omega), List.getElem?_drop] at ey
        exact ey
      obtain ⟨nw, tk⟩ := take_new nd ey2
      obtain ⟨M2, H2, z, S2, C2, V2, q1, q2, q3, q4⟩ := st_ring S V (by rw [hp2]; exact hp) (x := y) (by rw [nm]; exact nw) (pool y (List.mem_of_getElem? ey2)) (by omega)
      refine ⟨[some (.obj n), w1, w2, w3, some (.obj k), some (.str y), w6, w7, w8, w9], rfl, [some (.obj n), w1, w2, w3, some (.obj k), some (.str y), w6, w7, w8, w9], H2, ?_, M2, _, rfl, S2.mono (by omega), C.trans C2, V2, q1.trans hp2, ?_, by omega⟩
      · rw [sE_at, (eCall3_ok rfl rfl rfl).trans z]
        rfl
      · rw [q2, nm]
        exact tk.symm) [some (.obj n), w1, w2, w3, some (.obj k), w5, w6, w7, w8, w9] h ⟨N, _, rfl, S.mono (by omega), Chg.refl .., V, rfl, en, by rw [r0]; rfl⟩
  have ll : ((zs.drop a).take m).length ≤ 8 := by
    rw [List.length_take, List.length_drop]
    omega
  have lm : ((zs.drop a).take m).length ≤ m := by
    rw [List.length_take]
    omega
  exact ⟨M, h2, v, e2, S2.mono (by omega), C2, V2, p2, by omega⟩
theorem st_of_obj (S : St h k n p r c N T) (l : T < 1000000) {q : Nat} {zs : List Str} (e : h[q]? = some (.lst (zs.map P.str))) (ne : zs ≠ []) (lx : zs.length < 1000000) : ∃ (x : Str) (h1 : AH), x ∈ zs ∧ St h1 k n p r c N (T + 1) ∧ Chg h h1 k n p r c ∧ m__law_of [.obj n, .obj q] h = .ok (.str x) h1 := by
  obtain ⟨o, a, b⟩ := S.pot
  have nq : n ≠ q := fun z => by
    subst z
    exact b.not_strs (Option.some.inj (a.symm.trans e))
  obtain ⟨d, o', hd, cu, z⟩ := cup_of_obj a b l e nq (by simpa using ne) (by simpa using lx)
  obtain ⟨x, hx, rfl⟩ := List.mem_map.mp hd
  exact ⟨x, _, hx, (S.draw cu).1, (S.draw cu).2, z⟩
/-- the loop that draws further cords -/
theorem st_laps (S : St h k n p r c N T) (V : OwnOk N) (l : T + 50 < 1000000) {q : Nat} {zs : List Str} (e : h[q]? = some (.lst (zs.map P.str))) (q0 : q ≠ k) (q1 : q ≠ n) (q2 : q ≠ p) (q3 : q ≠ r) (q4 : q ≠ c) (ne : zs ≠ []) (lx : zs.length ≤ 8) {m : Nat} (m4 : m ≤ 4) {w1 w2 w5 w6 w7 w8 w9 : Option P} :
    ∃ (M : NetR) (h1 : AH) (t1 : AM.Loc), forP (rgS 0 (m : Int)) h (gN 7) (sQ (sPar 8 9 (lC (eCall 2 m__law_of (lC (eV 0) (lC (eV 3) lN))) (lC (eCall 2 m__law_of (lC (eV 0) (lC (eV 3) lN))) lN)))
      (sIf (tAn (tCp inP (eV 8) (eCall 1 m__law_net_names (lC (eV 4) lN))) (tAn (tCp inP (eV 9) (eCall 1 m__law_net_names (lC (eV 4) lN))) (tT (eCall 3 m__law_net_tied (lC (eV 4) (lC (eV 8) (lC (eV 9) lN))))))) (sE (eBM "list" mAppend (eB itemP (eV 4) (eC (.str "cords"))) (lC (eTup (lC (eV 8) (lC (eV 9) lN))) lN))) sNx)) (rgS 0 (m : Int)).xs [some (.obj n), w1, w2, some (.obj q), some (.obj k), w5, w6, w7, w8, w9] h
      = .nx t1 h1 ∧ t1[0]? = some (some (.obj n)) ∧ t1[4]? = some (some (.obj k)) ∧ t1.length = 10 ∧ St h1 k n p r c M (T + 8) ∧ Chg h h1 k n p r c ∧ OwnOk M ∧ M.pegs = N.pegs ∧ M.rings = N.rings := by
  rw [rg_map]
  obtain ⟨t2, h2, e2, M, u5, u6, u7, u8, u9, rfl, S2, C2, V2, p2, r2⟩ := for_steps (S := rgS 0 (m : Int)) (h0 := h) (g := gN 7) (b := sQ (sPar 8 9 (lC (eCall 2 m__law_of (lC (eV 0) (lC (eV 3) lN))) (lC (eCall 2 m__law_of (lC (eV 0) (lC (eV 3) lN))) lN)))
      (sIf (tAn (tCp inP (eV 8) (eCall 1 m__law_net_names (lC (eV 4) lN))) (tAn (tCp inP (eV 9) (eCall 1 m__law_net_names (lC (eV 4) lN))) (tT (eCall 3 m__law_net_tied (lC (eV 4) (lC (eV 8) (lC (eV 9) lN))))))) (sE (eBM "list" mAppend (eB itemP (eV 4) (eC (.str "cords"))) (lC (eTup (lC (eV 8) (lC (eV 9) lN))) lN))) sNx))
    (fun i : Nat => P.int ((i : Nat) : Int)) (fun i t H => ∃ (M : NetR) (u5 u6 u7 u8 u9 : Option P), t = [some (.obj n), w1, w2, some (.obj q), some (.obj k), u5, u6, u7, u8, u9] ∧ St H k n p r c M (T + 2 * i) ∧ Chg h H k n p r c ∧ OwnOk M ∧ M.pegs = N.pegs ∧ M.rings = N.rings)
    (fun i t H _ m hm => by cases hm) (ys := List.range m) (i := 0)
    (fun j y ey t H ⟨M, u5, u6, u7, u8, u9, et, S, C, V, p2, r2⟩ => by
      subst et
      rw [Nat.zero_add] at S ⊢
      have jl := (List.getElem?_eq_some_iff.mp ey).1
      rw [List.length_range] at jl
      have eH : H[q]? = some (.lst (zs.map P.str)) := (C.2 q q0 q1 q2 q3 q4).trans e
      obtain ⟨a, H1, ha, S1, C1, z1⟩ := st_of_obj S (by omega) eH ne (by omega)
      obtain ⟨b, H2, hb, S2, C2, z2⟩ := st_of_obj S1 (by omega) ((C1.2 q q0 q1 q2 q3 q4).trans eH) ne (by omega)
      have fw := V.few
      have nm := own_names S2.own (by omega)
      have ia := cmp_in_words a M.names H2
      have ib := cmp_in_words b M.names H2
      refine ⟨[some (.obj n), w1, w2, some (.obj q), some (.obj k), u5, u6, some (.int (y : Nat)), u8, u9], rfl, ?_⟩
      have s1 : sPar 8 9 (lC (eCall 2 m__law_of (lC (eV 0) (lC (eV 3) lN))) (lC (eCall 2 m__law_of (lC (eV 0) (lC (eV 3) lN))) lN)) [some (.obj n), w1, w2, some (.obj q), some (.obj k), u5, u6, some (.int (y : Nat)), u8, u9] H = .nx [some (.obj n), w1, w2, some (.obj q), some (.obj k), u5, u6, some (.int (y : Nat)), some (.str a), some (.str b)] H2 := by
        simp [z1, z2]
      by_cases h1 : a ∈ M.names ∧ b ∈ M.names ∧ M.tiedD a b = true
      · obtain ⟨h1, h2, h3⟩ := h1
        have td := own_tied S2.own (by omega) h1 h2 (V.strs h1 h2) (V.strs h2 h1) V.cords
        rw [h3] at td
        obtain ⟨S3, C3⟩ := S2.addCord (a, b)
        have ct : tAn (tCp inP (eV 8) (eCall 1 m__law_net_names (lC (eV 4) lN))) (tAn (tCp inP (eV 9) (eCall 1 m__law_net_names (lC (eV 4) lN))) (tT (eCall 3 m__law_net_tied (lC (eV 4) (lC (eV 8) (lC (eV 9) lN)))))) [some (.obj n), w1, w2, some (.obj q), some (.obj k), u5, u6, some (.int (y : Nat)), some (.str a), some (.str b)] H2 = .ok true H2 := by
          simp [nm, ia, ib, td, h1, h2]
        refine ⟨_, _, (sq_nx s1).trans ((sIf_ok ct).trans ((if_pos rfl).trans (sE_append (eItem_ok rfl (own_cords S2.own)) S2.own.hc (eTup2_ok rfl rfl) S2.own.hc (by rw [List.length_map]; have := V.nc; omega)))), { M with cords := M.cords ++ [(a, b)] }, _, _, _, _, _, rfl, S3.mono (by omega), C.trans (C1.trans (C2.trans C3)), V.addCord h1 h2 h3 (.inl rfl), p2, r2⟩
      · have ct : tAn (tCp inP (eV 8) (eCall 1 m__law_net_names (lC (eV 4) lN))) (tAn (tCp inP (eV 9) (eCall 1 m__law_net_names (lC (eV 4) lN))) (tT (eCall 3 m__law_net_tied (lC (eV 4) (lC (eV 8) (lC (eV 9) lN)))))) [some (.obj n), w1, w2, some (.obj q), some (.obj k), u5, u6, some (.int (y : Nat)), some (.str a), some (.str b)] H2 = .ok false H2 := by
          by_cases h2 : a ∈ M.names
          · by_cases h3 : b ∈ M.names
            · have td := own_tied S2.own (by omega) h2 h3 (V.strs h2 h3) (V.strs h3 h2) V.cords
              have h4 : M.tiedD a b = false := by
                cases q : M.tiedD a b with
                | true => exact absurd ⟨h2, h3, q⟩ h1
                | false => rfl
              rw [h4] at td
              simp [nm, ia, ib, td, h2, h3]
            · simp [nm, ia, ib, h2, h3]
          · simp [nm, ia, h2]
        exact ⟨_, _, (sq_nx s1).trans ((sIf_ok ct).trans (if_neg (by simp))), M, _, _, _, _, _, rfl, S2.mono (by omega), C.trans (C1.trans C2), V, p2, r2⟩) [some (.obj n), w1, w2, some (.obj q), some (.obj k), w5, w6, w7, w8, w9] h ⟨N, _, _, _, _, _, rfl, S.mono (by omega), Chg.refl .., V, rfl, rfl⟩
  rw [Nat.zero_add, List.length_range] at S2
  exact ⟨M, h2, _, e2, rfl, rfl, rfl, S2.mono (by omega), C2, V2, p2, r2⟩
end
end
end K14


/-! own nets: the draw -/
namespace K14
open PySem PySem.Spec PyProof.Rows L2 AM
noncomputable section
section
variable {h : AH} {k n p r c : Nat} {N : NetR} {T : Nat}
theorem OwnOk.shuffle (V : OwnOk N) {cs : List (Str × Str)} (pm : cs.Perm N.cords) : OwnOk { N with cords := cs } :=
  ⟨V.c1, V.c3, V.nd, V.pool, V.peg, V.ring, by show cs.length ≤ 9; rw [pm.length_eq]; exact V.nc, fun e he => V.cord e (pm.mem_iff.mp he), (pm.pairwise_iff fun h => far_symm h).mpr V.pw⟩
/-- the cords in a drawn sequence -/
theorem st_shuffle (S : St h k n p r c N T) (V : OwnOk N) (l : T + 50 < 1000000) {t : AM.Loc} (t0 : t[0]? = some (some (.obj n))) (t4 : t[4]? = some (some (.obj k))) :
    ∃ (M : NetR) (h1 : AH), sA (eCall 3 m__law_some (lC (eV 0) (lC (eB itemP (eV 4) (eC (.str "cords"))) (lC (eCB fLen (lC (eB itemP (eV 4) (eC (.str "cords"))) lN)) lN)))) (gS (eV 4) (eC (.str "cords"))) t h = .nx t h1 ∧ St h1 k n p r (h.length + 1) M (T + 9) ∧ OwnOk M ∧ M.pegs = N.pegs ∧ M.rings = N.rings ∧ M.coords = N.coords ∧ h1.length = h.length + 2 ∧ (∀ i, i < h.length → i ≠ k → i ≠ n → h1[i]? = h[i]?) := by
  obtain ⟨o, a, b⟩ := S.pot
  obtain ⟨n1, n2, n3, n4⟩ := S.own.off a b
  obtain ⟨l1, l2, l3, l4, l5⟩ := S.lens
  obtain ⟨k1, k2, k3⟩ := S.own.kn
  have nc := V.nc
  have sq : seqOf h (.obj c) = some (N.cords.map pairP) := by
    show (match h[c]? with
      | some (.lst xs) => some xs
      | _ => none) = _
    rw [S.own.hc]
  obtain ⟨ys, rest, o', pm, ly, cu, z⟩ := cup_some pairP (fun _ => rfl) a b sq (by omega) (many := N.cords.length) (Nat.le_refl _) (by omega)
  have lr : rest = [] := by
    have q := pm.length_eq
    rw [List.length_append] at q
    exact List.eq_nil_of_length_eq_zero (by omega)
  subst lr
  rw [List.append_nil] at pm
  have S1 := (S.draw cu).1
  have D := S1.own.app (j := [O.lst (([] : List (Str × Str)).map pairP), .lst (ys.map pairP)])
  have ll := len_lst S.own.hc
  have ev : eCall 3 m__law_some (lC (eV 0) (lC (eB itemP (eV 4) (eC (.str "cords"))) (lC (eCB fLen (lC (eB itemP (eV 4) (eC (.str "cords"))) lN)) lN))) t h = .ok (.obj (h.length + 1)) (h.set n o' ++ [O.lst (([] : List (Str × Str)).map pairP), .lst (ys.map pairP)]) := by
    refine (eCall3_ok (eV_some t0) (eItem_ok t4 (own_cords S.own)) (z := .int (N.cords.length : Nat)) (h3 := h) ?_).trans z
    rw [eCB_at, lC_at, eItem_ok t4 (own_cords S.own), Out.bind_ok, lN_at, Out.bind_ok, Out.bind_ok, ll, List.length_map]
  have kl : (h.set n o').length = h.length := by simp
  have st : setItemP (.obj k) (.str "cords") (.obj (h.length + 1)) (h.set n o' ++ [O.lst (([] : List (Str × Str)).map pairP), .lst (ys.map pairP)]) = some ((h.set n o' ++ [O.lst (([] : List (Str × Str)).map pairP), .lst (ys.map pairP)]).set k (O.dct [(.inr "coords", .int (N.coords : Nat)), (.inr "pegs", .obj p), (.inr "rings", .obj r), (.inr "cords", .obj (h.length + 1))])) := by
    unfold setItemP
    dsimp only
    rw [D.own]
    obtain ⟨e1, e2, e3, e4, e5, e6⟩ := ks_ne
    show (if 4 < 16777216 then some (List.set _ k (O.dct (putP _ (.inr "cords") _))) else none) = _
    rw [if_pos (by decide)]
    have pp : putP [((.inr "coords" : Key), P.int (N.coords : Nat)), (.inr "pegs", .obj p), (.inr "rings", .obj r), (.inr "cords", .obj c)] (.inr "cords") (.obj (h.length + 1)) = [(.inr "coords", .int (N.coords : Nat)), (.inr "pegs", .obj p), (.inr "rings", .obj r), (.inr "cords", .obj (h.length + 1))] := by
      simp [putP, e3, e5, e6]
    rw [pp]
  refine ⟨{ N with cords := ys }, (h.set n o' ++ [O.lst (([] : List (Str × Str)).map pairP), .lst (ys.map pairP)]).set k (O.dct [(.inr "coords", .int (N.coords : Nat)), (.inr "pegs", .obj p), (.inr "rings", .obj r), (.inr "cords", .obj (h.length + 1))]), ?_, ⟨⟨?_, ?_, ?_, ?_, S.own.pr, by omega, by omega⟩, o', ?_, cu.mono (by omega)⟩, V.shuffle pm, rfl, rfl, rfl, ?_, fun i il i0 i1 => ?_⟩
  · rw [sA_at, ev, Out.toS_ok]
    have g : gS (eV 4) (eC (.str "cords")) (.obj (h.length + 1)) t (h.set n o' ++ [O.lst (([] : List (Str × Str)).map pairP), .lst (ys.map pairP)]) = some (t, (h.set n o' ++ [O.lst (([] : List (Str × Str)).map pairP), .lst (ys.map pairP)]).set k (O.dct [(.inr "coords", .int (N.coords : Nat)), (.inr "pegs", .obj p), (.inr "rings", .obj r), (.inr "cords", .obj (h.length + 1))])) := by
      rw [gS_at, eV_some t4]
      dsimp only
      rw [eC_at]
      dsimp only
      rw [st]
      rfl
    rw [g]
  · exact set_at D.own
  · exact (set_off k1).trans D.hp
  · exact (set_off k2).trans D.hr
  · rw [set_off (by omega : k ≠ h.length + 1), List.getElem?_append_right (by omega), kl]
    simp
  · rw [set_off (Ne.symm n1), List.getElem?_append_left (by omega), set_at a]
  · simp
  · rw [set_off (Ne.symm i0), List.getElem?_append_left (by omega), set_off (Ne.symm i1)]
end
/-- a drawn net -/
theorem st_drawn {h : AH} {n : Nat} {o : O} {T : Nat} (e : h[n]? = some o) (cu : Cup T o) (l : T + 600 < 1000000) {most : Nat} (m8 : most ≤ 100) :
    ∃ (k p r c : Nat) (M : NetR) (h' : AH), m__law_net_drawn [.obj n, .int (most : Nat)] h = .ok (.obj k) h' ∧ St h' k n p r c M (T + 400) ∧ OwnOk M ∧ M.pegs ≠ [] ∧ M.rings.length ≤ most ∧ h.length ≤ k ∧ h.length ≤ p ∧ h.length ≤ r ∧ h.length ≤ c ∧ h.length ≤ h'.length ∧ ∀ i, i < h.length → i ≠ n → h'[i]? = h[i]? := by
  have nl := (List.getElem?_eq_some_iff.mp e).1
  -- coordinates
  obtain ⟨P1, o1, m1, c1, z1⟩ := cup_of e cu (by omega) (xs := [.int 2, .int 2, .int 1, .int 3]) (by simp) (by simp)
  obtain ⟨m, em, hm1, m3⟩ : ∃ m : Nat, P1 = .int (m : Nat) ∧ 1 ≤ m ∧ m ≤ 3 := by
    simp only [List.mem_cons, List.not_mem_nil, or_false] at m1
    rcases m1 with q | q | q | q
    · exact ⟨2, q, by decide, by decide⟩
    · exact ⟨2, q, by decide, by decide⟩
    · exact ⟨1, q, by decide, by decide⟩
    · exact ⟨3, q, by decide, by decide⟩
  subst em
  -- names
  obtain ⟨ys, rest, o2, pm, ly, c2, z2⟩ := cup_some P.str (fun _ => rfl) (set_at e) c1 (xs := poolN) (pool := .lst (poolN.map P.str)) rfl (by decide) (many := 8) (by decide) (by omega)
  have lr : rest = [] := by
    have q := pm.length_eq
    rw [List.length_append] at q
    have : poolN.length = 8 := rfl
    exact List.eq_nil_of_length_eq_zero (by omega)
  subst lr
  rw [List.append_nil] at pm
  rw [List.length_set, List.set_set] at z2
  have nd : ys.Nodup := pm.nodup_iff.mpr (by decide +kernel)
  have pl : ∀ x ∈ ys, x ∈ poolN := fun x hx => pm.mem_iff.mp hx
  have z2 : m__law_some [.obj n, .lst [.str "a", .str "b", .str "c", .str "d", .str "moon", .str "z", .str "r", .str "s"], .int 8] (h.set n o1) = .ok (.obj (h.length + 1)) (h.set n o2 ++ [O.lst [], .lst (ys.map P.str)]) := z2
  have z1 : m__law_of [.obj n, .lst [.int 2, .int 2, .int 1, .int 3]] h = .ok (.int (m : Nat)) (h.set n o1) := z1
  generalize eh2 : h.set n o2 ++ [O.lst [], .lst (ys.map P.str)] = h2 at z2
  have hl2 : h2.length = h.length + 2 := by rw [← eh2]; simp
  have an : h2[n]? = some o2 := by
    rw [← eh2]
    exact get_app (set_at e)
  have ay : h2[h.length + 1]? = some (.lst (ys.map P.str)) := by
    rw [← eh2, List.getElem?_append_right (by simp)]
    simp
  have keep2 : ∀ i, i < h.length → i ≠ n → h2[i]? = h[i]? := fun i il ni => by
    rw [← eh2, List.getElem?_append_left (by simpa using il), set_off (Ne.symm ni)]
  -- the own net
  have dct : eDct [("coords", (eV 2)), ("pegs", (eLst true lN)), ("rings", (eLst true lN)), ("cords", (eLst true lN))] [some (.obj n), some (.int (most : Nat)), some (.int (m : Nat)), some (.obj (h.length + 1)), none, none, none, none, none, none] h2 = .ok (.obj h2.length) (h2 ++ [.dct [(.inr "coords", .int (m : Nat)), (.inr "pegs", .obj (h2.length + 1)), (.inr "rings", .obj (h2.length + 2)), (.inr "cords", .obj (h2.length + 3))], .lst [], .lst [], .lst []]) := by
    have z := eDct_ok (l := [("coords", (eV 2)), ("pegs", (eLst true lN)), ("rings", (eLst true lN)), ("cords", (eLst true lN))]) (t := [some (.obj n), some (.int (most : Nat)), some (.int (m : Nat)), some (.obj (h.length + 1)), none, none, none, none, none, none]) (h := h2) (j := [.lst [], .lst [], .lst []]) (xs := [.int (m : Nat), .obj (h2.length + 1), .obj (h2.length + 2), .obj (h2.length + 3)]) (by
      show lC _ (lC _ (lC _ (lC _ lN))) _ (h2 ++ [.dct []]) = _
      simp) rfl
    exact z
  have S3 : St (h2 ++ [.dct [(.inr "coords", .int (m : Nat)), (.inr "pegs", .obj (h2.length + 1)), (.inr "rings", .obj (h2.length + 2)), (.inr "cords", .obj (h2.length + 3))], .lst [], .lst [], .lst []]) h2.length n (h2.length + 1) (h2.length + 2) (h2.length + 3) ⟨"", m, [], [], []⟩ (T + 1 + 8) := by
    refine ⟨⟨get0, get1, ?_, ?_, by omega, by omega, by omega⟩, o2, get_app an, c2⟩
    · rw [List.getElem?_append_right (by omega), show h2.length + 2 - h2.length = 2 by omega]
      rfl
    · rw [List.getElem?_append_right (by omega), show h2.length + 3 - h2.length = 3 by omega]
      rfl
  generalize eh3 : h2 ++ [.dct [(.inr "coords", .int (m : Nat)), (.inr "pegs", .obj (h2.length + 1)), (.inr "rings", .obj (h2.length + 2)), (.inr "cords", .obj (h2.length + 3))], O.lst [], .lst [], .lst []] = h3 at dct S3
  have hl3 : h3.length = h.length + 6 := by rw [← eh3]; simp [hl2]
  have keep3 : ∀ i, i < h.length → i ≠ n → h3[i]? = h[i]? := fun i il ni => by
    rw [← eh3, List.getElem?_append_left (by omega)]
    exact keep2 i il ni
  have ay3 : h3[h.length + 1]? = some (.lst (ys.map P.str)) := by
    rw [← eh3]
    exact get_app ay
  -- pegs
  obtain ⟨d, h4, hd, S4, C4, z4⟩ := st_take S3 (by omega) (u := 4) (by decide) (by decide)
  have z4 : m__law_take [.obj n, .int 4] h3 = .ok (.int (d : Nat)) h4 := z4
  have hn1 : n ≠ h.length + 1 := by omega
  have ky : ∀ {H H' : AH}, Chg H H' h2.length n (h2.length + 1) (h2.length + 2) (h2.length + 3) → H[h.length + 1]? = some (.lst (ys.map P.str)) → H'[h.length + 1]? = some (.lst (ys.map P.str)) := fun C q => (C.2 _ (by omega) (by omega) (by omega) (by omega) (by omega)).trans q
  have ay4 := ky C4 ay3
  obtain ⟨pegs, h5, v5, z5, S5, C5, n5, o5⟩ := st_pegs m3 S4 (by omega) (ys := ys.take (1 + d)) (by rw [List.length_take]; omega) (w1 := some (.int (most : Nat))) (w3 := some (.obj (h.length + 1))) (w5 := none) (w6 := none) (w7 := none) (w8 := none) (w9 := none)
  have lp : pegs.length = 1 + d := by
    have q := congrArg List.length n5
    rw [List.length_map, List.length_take, ly] at q
    omega
  have V5 : OwnOk ⟨"", m, pegs, [], []⟩ := by
    have en : NetR.names ⟨"", m, pegs, [], []⟩ = ys.take (1 + d) := by
      unfold NetR.names NetR.pegNames NetR.ringNames
      rw [n5]
      simp
    refine ⟨hm1, m3, by rw [en]; exact (List.take_sublist _ _).nodup nd, by rw [en]; exact fun x hx => pl x (List.mem_of_mem_take hx), o5, (fun z hz => by cases hz), by show 0 ≤ 9; decide, (fun z hz => by cases hz), List.Pairwise.nil⟩
  have en5 : NetR.names ⟨"", m, pegs, [], []⟩ = ys.take (1 + d) := by
    unfold NetR.names NetR.pegNames NetR.ringNames
    rw [n5]
    simp
  have pn5 : pegs ≠ [] := fun q => by
    rw [q] at lp
    simp at lp
    omega
  have ay5 := ky C5 ay4
  -- rings
  obtain ⟨d2, h6, hd2, S6, C6, z6⟩ := st_take S5 (by omega) (u := most + 1) (by omega) (by omega)
  have z6 : m__law_take [.obj n, .int ((most : Int) + 1)] h5 = .ok (.int (d2 : Nat)) h6 := z6
  obtain ⟨M7, h7, v7, z7, S7, C7, V7, p7, r7⟩ := st_rings S6 V5 pn5 rfl (by omega) nd pl (a := 1 + d) (m := d2) en5 (by omega) (w1 := some (.int (most : Nat))) (w2 := some (.int (m : Nat))) (w3 := some (.obj (h.length + 1))) (w5 := v5) (w6 := some (.lst ((ys.drop (1 + d)).map P.str))) (w7 := none) (w8 := none) (w9 := none)
  have ay7 := ky (C6.trans C7) ay5
  -- further cords
  obtain ⟨d3, h8, hd3, S8, C8, z8⟩ := st_take S7 (by omega) (u := 4) (by decide) (by decide)
  have z8 : m__law_take [.obj n, .int 4] h7 = .ok (.int (d3 : Nat)) h8 := z8
  have ay8 := ky C8 ay7
  obtain ⟨M9, h9, t9, z9, t90, t94, t9l, S9, C9, V9, p9, r9⟩ := st_laps S8 V7 (by omega) ay8 (by omega) (by omega) (by omega) (by omega) (by omega) (by intro q; rw [q] at ly; simp at ly) (by omega) (m := d3) (by omega) (w1 := some (.int (most : Nat))) (w2 := some (.int (m : Nat))) (w5 := v7) (w6 := some (.lst ((ys.drop (1 + d)).map P.str))) (w7 := none) (w8 := none) (w9 := none)
  -- in a drawn sequence
  obtain ⟨MA, hA, zA, SA, VA, pA, rA, cA, lA, KA⟩ := st_shuffle S9 V9 (by omega) t90 t94
  -- with weights
  obtain ⟨MB, hB, zB, SB, VB, pB, rB, cB, cB2, KB, lB⟩ := st_weighed SA VA (by omega)
  have C39 : Chg h3 h9 h2.length n (h2.length + 1) (h2.length + 2) (h2.length + 3) := C4.trans (C5.trans (C6.trans (C7.trans (C8.trans C9))))
  have hl9 : h9.length = h.length + 6 := C39.1.trans hl3
  have bd : b__law_net_drawn [some (.obj n), some (.int (most : Nat)), none, none, none, none, none, none, none, none] h = .rt (.obj (hA.length + 1)) hB := by
    unfold b__law_net_drawn
    refine (sq_nx (t' := [some (.obj n), some (.int (most : Nat)), some (.int (m : Nat)), some (.obj (h.length + 1)), none, none, none, none, none, none]) (h' := h2) (by simp [z1, z2])).trans ?_
    refine (sq_nx (t' := [some (.obj n), some (.int (most : Nat)), some (.int (m : Nat)), some (.obj (h.length + 1)), some (.obj h2.length), none, none, none, none, none]) (h' := h3) (sA_ok dct)).trans ?_
    refine (sq_nx (t' := [some (.obj n), some (.int (most : Nat)), some (.int (m : Nat)), some (.obj (h.length + 1)), some (.obj h2.length), v5, none, none, none, none]) (h' := h5) ((sfor_ok (S := ⟨(ys.take (1 + d)).map P.str, []⟩) (h1 := h4) ?_).trans z5)).trans ?_
    · have sl := slice_obj (lo := none) (hi := some ((1 : Int) + (d : Nat))) ay4
      have ct : cutP (ys.map P.str) none (some ((1 : Int) + (d : Nat))) = (ys.take (1 + d)).map P.str := by
        rw [show ((1 : Int) + (d : Nat)) = ((1 + d : Nat) : Int) by omega, cutP_upto, List.map_take]
      rw [ct] at sl
      simp [z4, sl]
    refine (sq_nx (t' := [some (.obj n), some (.int (most : Nat)), some (.int (m : Nat)), some (.obj (h.length + 1)), some (.obj h2.length), v5, some (.lst ((ys.drop (1 + d)).map P.str)), none, none, none]) (h' := h5) (sA_ok ?_)).trans ?_
    · have sl := slice_obj (lo := some ((1 + d : Nat) : Int)) (hi := none) ay5
      rw [cutP_from, ← List.map_drop] at sl
      have ll := len_lst S5.own.hp
      have lpe : (NetR.pegs ⟨"", m, pegs, [], []⟩).length = 1 + d := lp
      rw [List.length_map, lpe] at ll
      simp [own_pegs S5.own, ll]
      simpa using sl
    refine (sq_nx (t' := [some (.obj n), some (.int (most : Nat)), some (.int (m : Nat)), some (.obj (h.length + 1)), some (.obj h2.length), v7, some (.lst ((ys.drop (1 + d)).map P.str)), none, none, none]) (h' := h7) ((sfor_ok (S := ⟨((ys.drop (1 + d)).take d2).map P.str, []⟩) (h1 := h6) ?_).trans z7)).trans ?_
    · simp [z6, cutP_upto, List.map_take]
    refine (sq_nx (t' := t9) (h' := h9) ((sfor_ok (S := rgS 0 (d3 : Int)) (h1 := h8) ?_).trans z9)).trans ?_
    · have sr := src_rg h8 (by omega : d3 < 1000000)
      rw [iRg1_at, lC_at, (eCall2_ok rfl rfl).trans z8, Out.bind_ok, lN_at, Out.bind_ok, Out.bind_ok]
      exact sr
    refine (sq_nx zA).trans ?_
    rw [sR_at, (eCall2_ok (eV_some t90) (eV_some t94)).trans zB]
    rfl
  refine ⟨hA.length + 1, h2.length + 1, hA.length, h9.length + 1, MB, hB, ?_, SB.mono (by omega), VB, ?_, ?_, by omega, by omega, by omega, by omega, by omega, fun i il ni => ?_⟩
  · show mkFn _ b__law_net_drawn _ _ = _
    unfold mkFn
    rw [show ([P.obj n, .int (most : Nat)].map some ++ List.replicate (N__law_net_drawn.length - [P.obj n, .int (most : Nat)].length) none) = [some (.obj n), some (.int (most : Nat)), none, none, none, none, none, none, none, none] from rfl, bd]
    show Out.ok (P.obj (hA.length + 1)) (trim h (.obj (hA.length + 1)) _) = _
    unfold trim
    rw [if_neg]
    rintro ⟨z, _⟩
    have z : decide (hA.length + 1 < h.length) = true := z
    have := of_decide_eq_true z
    omega
  · rw [pB, pA, p9, p7]
    exact pn5
  · have q := congrArg List.length rB
    rw [List.length_map, List.length_map, rA, r9] at q
    omega
  · rw [KB i (by omega) (by omega) ni (by omega) (by omega) (by omega), KA i (by omega) (by omega) ni, C39.2 i (by omega) ni (by omega) (by omega) (by omega)]
    exact keep3 i il ni
end
end K14


/-! own nets: their texts -/
namespace K14
open PySem PySem.Spec PyProof.Rows L2 AM TL
noncomputable section
def fracW (x : Fr) : Str := if x.2 = 1 then intW x.1 else intW x.1 ++ "/" ++ intW x.2
theorem bar_tl : tl ("/" : Str) = [47] := by decide +kernel
theorem bar_len : ("/" : Str).length = 1 := by decide +kernel
theorem frac_text {x : Fr} (hx : NumOk x) (h : AH) : m__law_frac_text [ratP x] h = .ok (.str (fracW x)) h := by
  obtain ⟨fo, tn, bn⟩ := hx
  have := fo.pos
  have w1 := word_ok (i := x.1) tn
  have w2 := word_ok (i := x.2) (by omega)
  have s1 : ∀ hh, fStr [.int x.1] hh = .ok (.str (intW x.1)) hh := fun hh => f_str_int (Nat.lt_of_le_of_lt (log2_le (b := 10) (by omega)) (by decide))
  have s2 : ∀ hh, fStr [.int x.2] hh = .ok (.str (intW x.2)) hh := fun hh => f_str_int (Nat.lt_of_le_of_lt (log2_le (b := 10) (by omega)) (by decide))
  have i1 : itemP (ratP x) (.int 1) h = .ok (.int x.2) h := rfl
  have i0 : itemP (ratP x) (.int 0) h = .ok (.int x.1) h := rfl
  have fi : ∀ i : Int, fInt [.int i] h = .ok (.int i) h := fun i => rfl
  have l1 := w1.len
  have l2 := w2.len
  have bl := bar_len
  have a1 : ∀ hh, vAdd false (.str (intW x.1)) (.str "/") hh = .ok (.str (intW x.1 ++ "/")) hh := fun hh => add_str (by omega)
  have a2 : ∀ hh, vAdd false (.str (intW x.1 ++ "/")) (.str (intW x.2)) hh = .ok (.str (intW x.1 ++ "/" ++ intW x.2)) hh := fun hh => add_str (by rw [Str.length_append]; omega)
  refine fn_rt0 ?_
  unfold b__law_frac_text fracW
  by_cases q : x.2 = 1
  · simp [i1, i0, fi, s1, q]
  · simp [i1, i0, fi, s1, s2, a1, a2, q]
theorem fracW_word {x : Fr} (hx : NumOk x) : WordIs (fracW x) x := by
  obtain ⟨fo, tn, bn⟩ := hx
  have := fo.pos
  have w1 := word_ok (i := x.1) tn
  have w2 := word_ok (i := x.2) (by omega)
  have l1 := w1.len
  have l2 := w2.len
  have bl := bar_len
  have h1 := whIs_of (w := intW x.1) (by omega) w1.back w1.figs_ w1.zero
  have h2 := whIs_of (w := intW x.2) (by omega) w2.back w2.figs_ w2.zero
  unfold fracW
  by_cases q : x.2 = 1
  · rw [if_pos q]
    have z := split_join (y := ("/" : Str)) (s := 47) (S := []) bar_tl (by decide +kernel) (parts := [intW x.1]) (by simp) (fun p hp => by
      rw [List.mem_singleton.mp hp]
      exact w1.bar)
    rw [join_eq] at z
    have e : ((x.1, 1) : Fr) = x := by rw [← q]
    have z2 := p_ratio_in1 (w := intW x.1) (a := intW x.1) (by omega) z h1
    exact e ▸ z2
  · rw [if_neg q]
    have z := split_join (y := ("/" : Str)) (s := 47) (S := []) bar_tl (by decide +kernel) (parts := [intW x.1, intW x.2]) (by simp) (fun p hp => by
      rcases List.mem_cons.mp hp with e | e
      · rw [e]; exact w1.bar
      · rw [List.mem_singleton.mp e]; exact w2.bar)
    rw [join_eq] at z
    exact p_ratio_in2 (a := intW x.1) (b := intW x.2) (n := 10) (by rw [Str.length_append, Str.length_append]; omega) z h1 h2 fo (by omega)
theorem wordy_of {w : Str} (h1 : 32 ∉ tl w) (h2 : 10 ∉ tl w) : wordy w = true := by
  unfold wordy
  have a : (tl w).contains 32 = false := by
    cases q : (tl w).contains 32 with
    | false => rfl
    | true => exact absurd (List.contains_iff_mem.mp q) h1
  have b : (tl w).contains 10 = false := by
    cases q : (tl w).contains 10 with
    | false => rfl
    | true => exact absurd (List.contains_iff_mem.mp q) h2
  rw [a, b]
  rfl
theorem fracW_wordy {x : Fr} (hx : NumOk x) : wordy (fracW x) = true ∧ (fracW x).length ≤ 11 := by
  obtain ⟨fo, tn, bn⟩ := hx
  have := fo.pos
  have w1 := word_ok (i := x.1) tn
  have w2 := word_ok (i := x.2) (by omega)
  have l1 := w1.len
  have l2 := w2.len
  have bl := bar_len
  unfold fracW
  by_cases q : x.2 = 1
  · rw [if_pos q]
    exact ⟨w1.word, by omega⟩
  · rw [if_neg q]
    refine ⟨wordy_of ?_ ?_, by rw [Str.length_append, Str.length_append]; omega⟩
    · rw [tl_append, tl_append, bar_tl]
      simp only [List.mem_append, List.mem_singleton, not_or]
      exact ⟨⟨wordy_blank w1.word, by decide⟩, wordy_blank w2.word⟩
    · rw [tl_append, tl_append, bar_tl]
      simp only [List.mem_append, List.mem_singleton, not_or]
      exact ⟨⟨wordy_feed w1.word, by decide⟩, wordy_feed w2.word⟩
theorem words_are : ∀ {r : List Fr}, (∀ x ∈ r, NumOk x) → WordsAre (r.map fracW) r
  | [], _ => .nil
  | x :: r, h => .cons (fracW_word (h x (List.mem_cons_self ..))) (words_are fun y hy => h y (List.mem_cons_of_mem _ hy))
def pegW (z : Str × List Fr) : List Str := "peg" :: z.1 :: z.2.map fracW
def ringW (z : Str × List Fr × List Fr) : List Str := "ring" :: z.1 :: (z.2.1 ++ z.2.2).map fracW
def cordW (e : Str × Str) : List Str := ["cord", e.1, e.2]
def NetR.rowsW (N : NetR) : List (List Str) := N.pegs.map pegW ++ N.rings.map ringW ++ N.cords.map cordW
def NetR.linesW (N : NetR) : List Str := (([("net" : Str), intW N.coords] :: N.rowsW).map (Txt.join " "))
def NetR.textW (N : NetR) : Str := Txt.join "\n" N.linesW
theorem puts_app {k : Nat} {A B C : DraftR} {r1 r2 : List (List Str)} (h1 : Puts k A r1 B) (h2 : Puts k B r2 C) : Puts k A (r1 ++ r2) C := by
  induction h1 with
  | nil => exact h2
  | cons a _ ih => exact .cons a (ih h2)
section
variable {N : NetR}
theorem puts_pegs (V : OwnOk N) : ∀ (rest done : List (Str × List Fr)), done ++ rest = N.pegs → Puts N.coords ⟨done, [], []⟩ (rest.map pegW) ⟨N.pegs, [], []⟩
  | [], done, e => by
    rw [List.append_nil] at e
    rw [e]
    exact .nil
  | (x, r) :: rest, done, e => by
    have mem : (x, r) ∈ N.pegs := by rw [← e]; simp
    obtain ⟨v1, v2⟩ := V.peg _ mem
    have xn : x ∈ N.names := List.mem_append_left _ (List.mem_map.mpr ⟨_, mem, rfl⟩)
    have nd : (N.pegs.map (·.1)).Nodup := (List.nodup_append.mp V.nd).1
    rw [← e, List.map_append, List.nodup_append] at nd
    have fw := V.few
    have l : done.length < 16 := by
      have q := congrArg List.length e
      rw [List.length_append, List.length_cons] at q
      omega
    exact .cons (.peg (plainN_name (poolN_plain x (V.pool x xn))) (fun m => nd.2.2 x m x (by simp) rfl) (words_are v1) v1 (by rw [List.length_map]; exact v2) l) (puts_pegs V rest (done ++ [(x, r)]) (by rw [← e]; simp))
theorem puts_rings (V : OwnOk N) (np : N.pegs ≠ []) : ∀ (rest done : List (Str × List Fr × List Fr)), done ++ rest = N.rings → Puts N.coords ⟨N.pegs, done, []⟩ (rest.map ringW) ⟨N.pegs, N.rings, []⟩
  | [], done, e => by
    rw [List.append_nil] at e
    rw [e]
    exact .nil
  | (x, a, b) :: rest, done, e => by
    have mem : (x, a, b) ∈ N.rings := by rw [← e]; simp
    obtain ⟨⟨v1, v2⟩, v3, v4⟩ := V.ring _ mem
    have xn : x ∈ N.names := List.mem_append_right _ (List.mem_map.mpr ⟨_, mem, rfl⟩)
    have nd := List.nodup_append.mp V.nd
    have nr : (N.rings.map (·.1)).Nodup := nd.2.1
    rw [← e, List.map_append, List.nodup_append] at nr
    have fw := V.few
    have l : done.length < 8 := by
      have q := congrArg List.length e
      rw [List.length_append, List.length_cons] at q
      have : 0 < N.pegs.length := List.length_pos_iff.mpr np
      omega
    have all : ∀ y ∈ a ++ b, NumOk y := fun y hy => (List.mem_append.mp hy).elim (v1 y) (v3 y)
    exact .cons (.ring (plainN_name (poolN_plain x (V.pool x xn))) (fun m => nd.2.2 x m x (List.mem_map.mpr ⟨_, mem, rfl⟩) rfl) (fun m => nr.2.2 x m x (by simp) rfl) np (words_are all) all v2 v4 l) (puts_rings V np rest (done ++ [(x, a, b)]) (by rw [← e]; simp))
theorem puts_cords (V : OwnOk N) : ∀ (rest done : List (Str × Str)), done ++ rest = N.cords → Puts N.coords ⟨N.pegs, N.rings, done⟩ (rest.map cordW) ⟨N.pegs, N.rings, N.cords⟩
  | [], done, e => by
    rw [List.append_nil] at e
    rw [e]
    exact .nil
  | (x, y) :: rest, done, e => by
    have mem : (x, y) ∈ N.cords := by rw [← e]; simp
    obtain ⟨c1, c2, c3, c4⟩ := V.cord _ mem
    have VN := V.net
    have pw := V.pw
    rw [← e, List.pairwise_append] at pw
    have fr : ∀ a ∈ done, far a (x, y) := fun a ha => pw.2.2 a ha _ (List.mem_cons_self ..)
    have nc := V.nc
    have l : done.length < 20 := by
      have q := congrArg List.length e
      rw [List.length_append, List.length_cons] at q
      omega
    have so : ∀ z ∈ done, strsOk z = true := fun z hz => V.cords z (by rw [← e]; exact List.mem_append_left _ hz)
    exact .cons (.cord (VN.place c1).1 (VN.place c2).1 c4 c3 (fun m => (fr _ m).1 rfl) (fun m => (fr _ m).2 rfl) l (V.strs c1 c2) so) (puts_cords V rest (done ++ [(x, y)]) (by rw [← e]; simp))
theorem own_puts (V : OwnOk N) (np : N.pegs ≠ []) : Puts N.coords ⟨[], [], []⟩ N.rowsW ⟨N.pegs, N.rings, N.cords⟩ :=
  puts_app (puts_app (puts_pegs V N.pegs [] rfl) (puts_rings V np N.rings [] rfl)) (puts_cords V N.cords [] rfl)
theorem tags_ok : (wordy "net" = true ∧ ("net" : Str).length ≤ 11) ∧ (wordy "peg" = true ∧ ("peg" : Str).length ≤ 11) ∧ (wordy "ring" = true ∧ ("ring" : Str).length ≤ 11) ∧ (wordy "cord" = true ∧ ("cord" : Str).length ≤ 11) := by decide +kernel
theorem OwnOk.wordN (V : OwnOk N) {x : Str} (hx : x ∈ N.names) : wordy x = true ∧ x.length ≤ 11 := ⟨plainN_wordy (poolN_plain x (V.pool x hx)), by have := plainN_len (poolN_plain x (V.pool x hx)); omega⟩
theorem coords_word (V : OwnOk N) : WordOk (N.coords : Int) := word_ok (by have := V.c3; omega)
theorem rows_ok (V : OwnOk N) : ∀ ws ∈ ([("net" : Str), intW N.coords] :: N.rowsW), ws.length ≤ 8 ∧ ws ≠ [] ∧ ∀ w ∈ ws, wordy w = true ∧ w.length ≤ 11 := by
  obtain ⟨g1, g2, g3, g4⟩ := tags_ok
  have c3 := V.c3
  have cw := coords_word V
  intro ws hw
  rcases List.mem_cons.mp hw with rfl | hw
  · refine ⟨by simp, by simp, fun w h => ?_⟩
    rcases List.mem_cons.mp h with rfl | h
    · exact g1
    · rw [List.mem_singleton.mp h]
      exact ⟨cw.word, by have := cw.len; omega⟩
  · unfold NetR.rowsW at hw
    rcases List.mem_append.mp hw with hw | hw
    · rcases List.mem_append.mp hw with hw | hw
      · obtain ⟨z, hz, rfl⟩ := List.mem_map.mp hw
        obtain ⟨v1, v2⟩ := V.peg z hz
        refine ⟨by unfold pegW; simp; omega, by unfold pegW; simp, fun w h => ?_⟩
        unfold pegW at h
        rcases List.mem_cons.mp h with rfl | h
        · exact g2
        · rcases List.mem_cons.mp h with rfl | h
          · exact V.wordN (List.mem_append_left _ (List.mem_map.mpr ⟨z, hz, rfl⟩))
          · obtain ⟨y, hy, rfl⟩ := List.mem_map.mp h
            exact fracW_wordy (v1 y hy)
      · obtain ⟨z, hz, rfl⟩ := List.mem_map.mp hw
        obtain ⟨⟨v1, v2⟩, v3, v4⟩ := V.ring z hz
        refine ⟨by unfold ringW; simp; omega, by unfold ringW; simp, fun w h => ?_⟩
        unfold ringW at h
        rcases List.mem_cons.mp h with rfl | h
        · exact g3
        · rcases List.mem_cons.mp h with rfl | h
          · exact V.wordN (List.mem_append_right _ (List.mem_map.mpr ⟨z, hz, rfl⟩))
          · obtain ⟨y, hy, rfl⟩ := List.mem_map.mp h
            exact fracW_wordy ((List.mem_append.mp hy).elim (v1 y) (v3 y))
    · obtain ⟨e, he, rfl⟩ := List.mem_map.mp hw
      obtain ⟨c1, c2, _⟩ := V.cord e he
      refine ⟨by unfold cordW; simp, by unfold cordW; simp, fun w h => ?_⟩
      unfold cordW at h
      rcases List.mem_cons.mp h with rfl | h
      · exact g4
      · rcases List.mem_cons.mp h with rfl | h
        · exact V.wordN c1
        · rw [List.mem_singleton.mp h]
          exact V.wordN c2
theorem lines_len (V : OwnOk N) : ∀ x ∈ N.linesW, x.length ≤ 100 := by
  intro x hx
  obtain ⟨ws, hm, rfl⟩ := List.mem_map.mp hx
  obtain ⟨l8, _, hw⟩ := rows_ok V ws hm
  have z := join_len " " 11 fun y hy => (hw y hy).2
  have b : (" " : Str).length = 1 := by decide +kernel
  rw [b] at z
  have : ws.length * (11 + 1) ≤ 8 * (11 + 1) := Nat.mul_le_mul_right _ l8
  omega
theorem rowsW_len (V : OwnOk N) : N.rowsW.length ≤ 17 := by
  have := V.few
  have := V.nc
  unfold NetR.rowsW
  rw [List.length_append, List.length_append, List.length_map, List.length_map, List.length_map]
  omega
theorem text_len (V : OwnOk N) : N.textW.length ≤ 2000 := by
  have z := join_len "\n" 100 (lines_len V)
  have b : ("\n" : Str).length = 1 := by decide +kernel
  have n : N.linesW.length ≤ 18 := by
    unfold NetR.linesW
    rw [List.length_map, List.length_cons]
    have := rowsW_len V
    omega
  rw [b] at z
  have : N.linesW.length * (100 + 1) ≤ 18 * (100 + 1) := Nat.mul_le_mul_right _ n
  unfold NetR.textW
  omega
theorem own_text_of (V : OwnOk N) : TextOf N.textW N.coords (intW N.coords) N.rowsW := by
  have tl := text_len V
  have cw := coords_word V
  have cl := cw.len
  refine ⟨by omega, split_rows (by simp) (fun ws hw => (rows_ok V ws hw).2.1) fun ws hm y hy => ((rows_ok V ws hm).2.2 y hy).1, fun x hx => ?_, by have := rowsW_len V; omega, whIs_of (by omega) cw.back cw.figs_ cw.zero, V.c1, V.c3⟩
  have e : Txt.split N.textW "\n" = N.linesW := split_lines (by simp) fun ws hm y hy => ((rows_ok V ws hm).2.2 y hy).1
  rw [e] at hx
  have := lines_len V x hx
  omega
end
end
end K14


/-! own nets: the text's walk -/
namespace K14
open PySem PySem.Spec PyProof.Rows L2 AM TL
noncomputable section
theorem sum_le {k : Nat} : ∀ {xs : List Str}, (∀ x ∈ xs, x.length ≤ k) → (xs.map fun z => Str.length z).sum ≤ xs.length * k
  | [], _ => by simp
  | x :: xs, hx => by
    have a := hx x (List.mem_cons_self ..)
    have b := sum_le fun y hy => hx y (List.mem_cons_of_mem _ hy)
    rw [List.map_cons, List.sum_cons, List.length_cons, Nat.add_mul]
    omega
theorem eCall1_ok {f : Fn} {a : EM} {t : AM.Loc} {h h1 : AH} {x : P} (e1 : a t h = .ok x h1) : eCall 1 f (lC a lN) t h = f [x] h1 := by simp [e1]
theorem wipe_len (t : AM.Loc) (vs : List Nat) : (wipeL t vs).length = t.length := by
  induction vs with
  | nil => rfl
  | cons v vs ih => rw [wipeL_cons, List.length_set, ih]
theorem line_ok {tag x : Str} {r : List Fr} {m : EM} {t : AM.Loc} {H : AH} (ex : t[2]? = some (some (.str x))) (em : m t H = .ok (rowP r) H) (t5 : 5 < t.length) (hr : ∀ y ∈ r, NumOk y) (rl : r.length ≤ 6) (gl : tag.length ≤ 11) (xl : x.length ≤ 11) :
    eM1 fJoin (eC (.str " ")) (eB (vAdd false) (eLst false (lC (eC (.str tag)) (lC (eV 2) lN))) (eLc (iSeq m) [5] (gN 5) tY (eCall 1 m__law_frac_text (lC (eV 5) lN)))) t H = .ok (.str (Txt.join " " (tag :: x :: r.map fracW))) H := by
  have lc := lc_map0 (ys := r) (h := H) (g := gN 5) (e := eCall 1 m__law_frac_text (lC (eV 5) lN)) (t := wipeL t [5]) ratP (fun y => .str (fracW y)) (by omega) (fun y hy hh => ⟨(wipeL t [5]).set 5 (some (ratP y)), rfl, (eCall1_ok (eV_some (by rw [List.getElem?_set_self (by rw [wipe_len]; exact t5)]))).trans (frac_text (hr y hy) hh), rfl⟩)
  have e2 : eLc (iSeq m) [5] (gN 5) tY (eCall 1 m__law_frac_text (lC (eV 5) lN)) t H = .ok (.lst (r.map fun y => .str (fracW y))) H := by
    rw [eLc_at, iSeq_at, em, Out.bind_ok]
    show Out.bind (srcSeq (.tup (r.map ratP)) H) _ = _
    rw [src_tup, Out.bind_ok]
    exact lc
  have e1 : eLst false (lC (eC (.str tag)) (lC (eV 2) lN)) t H = .ok (.lst [.str tag, .str x]) H := by
    rw [eLst_at, lC_at, eC_at, Out.bind_ok, lC_at, eV_some ex, Out.bind_ok, lN_at, Out.bind_ok, Out.bind_ok, Out.bind_ok]
    exact if_pos (small_true (show 2 ≤ 16777216 by decide))
  have ad := add_lsts (b := false) (h := H) (p := .lst [.str tag, .str x]) (q := .lst (r.map fun y => .str (fracW y))) lstOf_lst lstOf_lst (by rw [List.length_map]; simp; omega)
  have mp : [P.str tag, .str x] ++ (r.map fun y => P.str (fracW y)) = (tag :: x :: r.map fracW).map P.str := by
    rw [List.map_cons, List.map_cons, List.map_map]
    rfl
  rw [mp, mkL_false] at ad
  have sm := sum_le (k := 11) (xs := tag :: x :: r.map fracW) (fun w hw => by
    rcases List.mem_cons.mp hw with rfl | hw
    · exact gl
    · rcases List.mem_cons.mp hw with rfl | hw
      · exact xl
      · obtain ⟨y, hy, rfl⟩ := List.mem_map.mp hw
        exact (fracW_wordy (hr y hy)).2)
  have jn := join_str (y := (" " : Str)) (ps := tag :: x :: r.map fracW) (q := .lst ((tag :: x :: r.map fracW).map P.str)) (h := H) rfl (by
    have b : (" " : Str).length = 1 := by decide +kernel
    have l : (tag :: x :: r.map fracW).length ≤ 8 := by simp; omega
    rw [b]
    have : (tag :: x :: r.map fracW).length * 11 ≤ 8 * 11 := Nat.mul_le_mul_right _ l
    omega)
  rw [eM1_at, eC_at, Out.bind_ok]
  dsimp only
  rw [eB_at, e1, Out.bind_ok, e2, Out.bind_ok, ad, Out.bind_ok]
  exact jn
theorem net_blank : tl ("net " : Str) = tl ("net" : Str) ++ [32] := by decide +kernel
theorem cord_blank : tl ("cord " : Str) = tl ("cord" : Str) ++ [32] := by decide +kernel
theorem blanks_len : ("net " : Str).length = 4 ∧ ("cord " : Str).length = 5 ∧ (" " : Str).length = 1 ∧ ("\n" : Str).length = 1 := by decide +kernel
theorem line_net (x : Str) : ("net " : Str) ++ x = Txt.join " " ["net", x] := by
  apply ext_tl
  rw [join_eq, tl_join, tl_blank, tl_append, net_blank]
  simp [joinL]
theorem line_cord (x y : Str) : ("cord " : Str) ++ x ++ " " ++ y = Txt.join " " ["cord", x, y] := by
  apply ext_tl
  rw [join_eq, tl_join, tl_blank, tl_append, tl_append, tl_append, tl_blank, cord_blank]
  simp [joinL]
section
variable {h : AH} {k p r c : Nat} {N : NetR}
theorem own_text (D : OwnAt h k p r c N) (V : OwnOk N) : m__law_net_text [.obj k] h = .ok (.str N.textW) h := by
  have fw := V.few
  have nc := V.nc
  have c3 := V.c3
  obtain ⟨b1, b2, b3, b4⟩ := blanks_len
  obtain ⟨g1, g2, g3, g4⟩ := tags_ok
  have cw := coords_word V
  have cl := cw.len
  have kl := (List.getElem?_eq_some_iff.mp D.own).1
  have pl := (List.getElem?_eq_some_iff.mp D.hp).1
  have rl := (List.getElem?_eq_some_iff.mp D.hr).1
  have cc := (List.getElem?_eq_some_iff.mp D.hc).1
  -- pegs
  obtain ⟨t2, h2, e2, w2, w3, w4, rfl, rfl⟩ := for_steps (S := ⟨N.pegs.map pegT, [p]⟩) (h0 := h ++ [.lst [.str (Txt.join " " ["net", intW N.coords])]]) (g := gT 2 (gsC (gN 2) (gsC (gN 3) gsN)))
    (b := sE (eBM "list" mAppend (eV 1) (lC (eM1 fJoin (eC (.str " ")) (eB (vAdd false) (eLst false (lC (eC (.str "peg")) (lC (eV 2) lN))) (eLc (iSeq (eV 3)) [5] (gN 5) tY (eCall 1 m__law_frac_text (lC (eV 5) lN))))) lN)))
    pegT (fun i t H => ∃ (w2 w3 w4 : Option P), t = [some (.obj k), some (.obj h.length), w2, w3, w4, none, none] ∧ H = h ++ [.lst ((([("net" : Str), intW N.coords] :: (N.pegs.take i).map pegW).map (Txt.join " ")).map P.str)])
    (fun i t H ⟨_, _, _, _, eH⟩ m hm => by
      have hm : m = p := by simpa using hm
      subst hm eH
      rw [List.getElem?_append_left pl, List.getElem?_append_left pl]) (ys := N.pegs) (i := 0)
    (fun j z ez t H ⟨w2, w3, w4, et, eH⟩ => by
      subst et eH
      rw [Nat.zero_add]
      have hz := List.mem_of_getElem? ez
      have jl := (List.getElem?_eq_some_iff.mp ez).1
      obtain ⟨v1, v2⟩ := V.peg z hz
      have xn := V.wordN (List.mem_append_left _ (List.mem_map.mpr ⟨z, hz, rfl⟩) : z.1 ∈ N.names)
      refine ⟨[some (.obj k), some (.obj h.length), some (.str z.1), some (rowP z.2), w4, none, none], rfl, [some (.obj k), some (.obj h.length), some (.str z.1), some (rowP z.2), w4, none, none], _, sE_append rfl get0 (line_ok rfl rfl (show 5 < 7 by decide) v1 (by omega) g2.2 xn.2) get0 (by simp; omega), _, _, _, rfl, ?_⟩
      rw [set0, List.take_succ, ez]
      simp [pegW]) [some (.obj k), some (.obj h.length), none, none, none, none, none] (h ++ [.lst [.str (Txt.join " " ["net", intW N.coords])]]) ⟨_, _, _, rfl, rfl⟩
  rw [Nat.zero_add, List.take_of_length_le (Nat.le_refl _)] at e2
  -- rings
  obtain ⟨t3, h3, e3, u2, u3, u4, rfl, rfl⟩ := for_steps (S := ⟨N.rings.map ringT, [r]⟩) (h0 := h ++ [.lst ((([("net" : Str), intW N.coords] :: N.pegs.map pegW).map (Txt.join " ")).map P.str)]) (g := gT 3 (gsC (gN 2) (gsC (gN 3) (gsC (gN 4) gsN))))
    (b := sE (eBM "list" mAppend (eV 1) (lC (eM1 fJoin (eC (.str " ")) (eB (vAdd false) (eLst false (lC (eC (.str "ring")) (lC (eV 2) lN))) (eLc (iSeq (eB (vAdd false) (eV 3) (eV 4))) [5] (gN 5) tY (eCall 1 m__law_frac_text (lC (eV 5) lN))))) lN)))
    ringT (fun i t H => ∃ (w2 w3 w4 : Option P), t = [some (.obj k), some (.obj h.length), w2, w3, w4, none, none] ∧ H = h ++ [.lst ((([("net" : Str), intW N.coords] :: (N.pegs.map pegW ++ (N.rings.take i).map ringW)).map (Txt.join " ")).map P.str)])
    (fun i t H ⟨_, _, _, _, eH⟩ m hm => by
      have hm : m = r := by simpa using hm
      subst hm eH
      rw [List.getElem?_append_left rl, List.getElem?_append_left rl]) (ys := N.rings) (i := 0)
    (fun j z ez t H ⟨w2, w3, w4, et, eH⟩ => by
      subst et eH
      rw [Nat.zero_add]
      have hz := List.mem_of_getElem? ez
      have jl := (List.getElem?_eq_some_iff.mp ez).1
      obtain ⟨⟨v1, v2⟩, v3, v4⟩ := V.ring z hz
      have xn := V.wordN (List.mem_append_right _ (List.mem_map.mpr ⟨z, hz, rfl⟩) : z.1 ∈ N.names)
      have all : ∀ y ∈ z.2.1 ++ z.2.2, NumOk y := fun y hy => (List.mem_append.mp hy).elim (v1 y) (v3 y)
      refine ⟨[some (.obj k), some (.obj h.length), some (.str z.1), some (rowP z.2.1), some (rowP z.2.2), none, none], rfl, [some (.obj k), some (.obj h.length), some (.str z.1), some (rowP z.2.1), some (rowP z.2.2), none, none], _, sE_append rfl get0 (line_ok (r := z.2.1 ++ z.2.2) rfl (add_rows (by omega)) (show 5 < 7 by decide) all (by rw [List.length_append]; omega) g3.2 xn.2) get0 (by simp; omega), _, _, _, rfl, ?_⟩
      rw [set0, List.take_succ, ez]
      simp [ringW]) [some (.obj k), some (.obj h.length), w2, w3, w4, none, none] (h ++ [.lst ((([("net" : Str), intW N.coords] :: N.pegs.map pegW).map (Txt.join " ")).map P.str)]) ⟨_, _, _, rfl, by simp⟩
  rw [Nat.zero_add, List.take_of_length_le (Nat.le_refl _)] at e3
  -- cords
  generalize hx : ((([("net" : Str), intW N.coords] :: (N.pegs.map pegW ++ N.rings.map ringW)).map (Txt.join " ")).map P.str) = ls at e3
  have lsl : ls.length ≤ 9 := by
    rw [← hx]
    simp
    omega
  have D3 : OwnAt (h ++ [.lst ls]) k p r c N := D.app
  have lc := lc_run (S := ⟨N.cords.map pairP, [c]⟩) (h := h ++ [.lst ls]) (g := gT 2 (gsC (gN 5) (gsC (gN 6) gsN))) (c := tY) (e := eB (vAdd false) (eB (vAdd false) (eB (vAdd false) (eC (.str "cord ")) (eV 5)) (eC (.str " "))) (eV 6)) (t := [some (.obj k), some (.obj h.length), u2, u3, u4, none, none]) pairP (fun e => some (.str (Txt.join " " (cordW e)))) (fun acc m hm => by
    have hm : m = c := by simpa using hm
    subst hm
    exact List.getElem?_append_left (by rw [List.length_append]; omega)) (ys := N.cords) (acc := []) (fun e he acc => by
    obtain ⟨q1, q2, _⟩ := V.cord e he
    have x1 := (V.wordN q1).2
    have x2 := (V.wordN q2).2
    refine ⟨[some (.obj k), some (.obj h.length), u2, u3, u4, some (.str e.1), some (.str e.2)], rfl, [], [], by simp, ?_, rfl⟩
    have a1 : ∀ hh, vAdd false (.str "cord ") (.str e.1) hh = .ok (.str ("cord " ++ e.1)) hh := fun hh => add_str (by omega)
    have a2 : ∀ hh, vAdd false (.str ("cord " ++ e.1)) (.str " ") hh = .ok (.str ("cord " ++ e.1 ++ " ")) hh := fun hh => add_str (by rw [Str.length_append]; omega)
    have a3 : ∀ hh, vAdd false (.str ("cord " ++ e.1 ++ " ")) (.str e.2) hh = .ok (.str (Txt.join " " (cordW e))) hh := fun hh => by
      unfold cordW
      rw [← line_cord]
      exact add_str (by rw [Str.length_append, Str.length_append]; omega)
    simp [a1, a2, a3]) (by simp; omega)
  simp only [List.nil_append, List.filterMap_eq_map'] at lc
  have a0 : ∀ hh, vAdd false (.str "net ") (.str (intW N.coords)) hh = .ok (.str (Txt.join " " ["net", intW N.coords])) hh := fun hh => by
    rw [← line_net]
    exact add_str (by omega)
  have s0 : ∀ hh, fStr [.int (N.coords : Nat)] hh = .ok (.str (intW N.coords)) hh := fun hh => f_str_int (by rw [Int.natAbs_natCast]; exact Nat.lt_of_le_of_lt (log2_le (b := 10) (by omega)) (by decide))
  refine fn_rt (j := [.lst ls]) ?_ rfl
  unfold b__law_net_text
  show (sQ _ _) [some (.obj k), none, none, none, none, none, none] h = _
  refine (sq_nx (t' := [some (.obj k), some (.obj h.length), none, none, none, none, none]) (h' := h ++ [.lst [.str (Txt.join " " ["net", intW N.coords])]]) (by simp [own_coords D, s0, a0])).trans ?_
  refine (sq_nx ((sfor_ok (S := ⟨N.pegs.map pegT, [p]⟩) (h1 := h ++ [.lst [.str (Txt.join " " ["net", intW N.coords])]]) ?_).trans e2)).trans ?_
  · have Dx : OwnAt (h ++ [O.lst [.str (Txt.join " " ["net", intW N.coords])]]) k p r c N := D.app
    rw [iSeq_at, eItem_ok rfl (own_pegs Dx), Out.bind_ok, src_obj Dx.hp]
  refine (sq_nx ((sfor_ok (S := ⟨N.rings.map ringT, [r]⟩) (h1 := h ++ [.lst ((([("net" : Str), intW N.coords] :: N.pegs.map pegW).map (Txt.join " ")).map P.str)]) ?_).trans e3)).trans ?_
  · have Dx : OwnAt (h ++ [O.lst ((([("net" : Str), intW N.coords] :: N.pegs.map pegW).map (Txt.join " ")).map P.str)]) k p r c N := D.app
    rw [iSeq_at, eItem_ok rfl (own_rings Dx), Out.bind_ok, src_obj Dx.hr]
  have el : eLc (iSeq (eB itemP (eV 0) (eC (.str "cords")))) [5, 6] (gT 2 (gsC (gN 5) (gsC (gN 6) gsN))) tY (eB (vAdd false) (eB (vAdd false) (eB (vAdd false) (eC (.str "cord ")) (eV 5)) (eC (.str " "))) (eV 6)) [some (.obj k), some (.obj h.length), u2, u3, u4, none, none] (h ++ [.lst ls]) = .ok (.lst (N.cords.map fun e => .str (Txt.join " " (cordW e)))) (h ++ [.lst ls]) := by
    rw [eLc_at, iSeq_at, eItem_ok rfl (own_cords D3), Out.bind_ok, src_obj D3.hc, Out.bind_ok]
    exact lc
  have ad := add_lsts (b := false) (h := h ++ [.lst ls]) (p := .obj h.length) (q := .lst (N.cords.map fun e => .str (Txt.join " " (cordW e)))) (lstOf_obj get0) lstOf_lst (by rw [List.length_map]; omega)
  have all : ls ++ (N.cords.map fun e => P.str (Txt.join " " (cordW e))) = N.linesW.map P.str := by
    rw [← hx]
    unfold NetR.linesW NetR.rowsW
    simp
  rw [all, mkL_false] at ad
  have sm := sum_le (lines_len V)
  have n18 : N.linesW.length ≤ 18 := by
    unfold NetR.linesW
    rw [List.length_map, List.length_cons]
    have := rowsW_len V
    omega
  have jn := join_str (y := ("\n" : Str)) (ps := N.linesW) (q := .lst (N.linesW.map P.str)) (h := h ++ [.lst ls]) rfl (by
    rw [b4]
    have : N.linesW.length * 100 ≤ 18 * 100 := Nat.mul_le_mul_right _ n18
    omega)
  rw [sR_at, eM1_at, eC_at, Out.bind_ok]
  dsimp only
  rw [eB_at, eV_some (rfl : [some (P.obj k), some (.obj h.length), u2, u3, u4, none, none][1]? = _), Out.bind_ok, el, Out.bind_ok, ad, Out.bind_ok, jn]
  rfl
/-- the net of an own net -/
theorem own_net (V : OwnOk N) (np : N.pegs ≠ []) (h : AH) : ∃ h', newOf "Net" m_Net_u_init_u [.str N.textW] h = .ok (.obj h.length) h' ∧ NetAt h' h.length { N with text := N.textW } ∧ ∀ i, i < h.length → h'[i]? = h[i]? :=
  p_net_init (own_text_of V) (own_puts V np) np h
end
end
end K14


/-! what pulls leave over: the program's walk -/
namespace K14
open PySem PySem.Spec PyProof.Rows L2 AM
noncomputable section
section
variable {h : AH} {n : Nat} {N : NetR} {b : Nat} {u : List Fr}
theorem noughts_of (D : NetAt h n N) (V : NetOk N) : m_noughts_of [.obj n] h = .ok (rowP (List.replicate N.coords (0, 1))) h := by
  have s1 := prop_at (i := 0) (t := [some (.obj n)]) D rfl (p_coords D)
  have c3 := V.c3
  refine fn_rt0 ?_
  unfold b_noughts_of
  simp [s1, mul_row N.coords h (by omega)]
theorem minus_ok : FrOk 1 (-1, 1) := ⟨by decide, by decide, by decide, by decide⟩
theorem from_turned (V : NetOk N) {e : Str × Str} (he : e ∈ N.cords) : rowTimes (N.wayD e) (-1, 1) = rowLess (N.placeD e.1) (N.placeD e.2) := by
  obtain ⟨h1, h2⟩ := V.cord e he
  obtain ⟨_, r1, l1⟩ := V.place h1
  obtain ⟨_, r2, l2⟩ := V.place h2
  obtain ⟨rw_, lw⟩ := way_ok V he
  have ll : (rowLess (N.placeD e.1) (N.placeD e.2)).length = N.coords := by rw [rowLess_len, l1, l2]; omega
  have lt : (rowTimes (N.wayD e) (-1, 1)).length = N.coords := by rw [times_len, lw]
  refine rows_same (rw_.times minus_ok) (r1.less r2) (by omega) fun j hj => ?_
  rw [at_times rw_ minus_ok (by omega), at_less r1 r2 (by omega) (by omega), val_minus]
  unfold NetR.wayD
  rw [at_less r2 r1 (by omega) (by omega)]
  generalize at_ (N.placeD e.1) j = x
  generalize at_ (N.placeD e.2) j = y
  grind
theorem way_from (D : NetAt h n N) (V : NetOk N) {i : Nat} {e : Str × Str} (ee : N.cords[i]? = some e) {x : Str} (hx : x = e.1 ∨ x = e.2) : m_way_from [.obj n, .int (i : Nat), .str x] h = .ok (rowP (N.fromD e x)) h := by
  have he := List.mem_of_getElem? ee
  obtain ⟨h1, h2⟩ := V.cord e he
  have wy := way_of D V ee
  obtain ⟨rw_, lw⟩ := way_ok V he
  have c3 := V.c3
  have rt := p_row_times h rw_ minus_ok (by omega) (by omega)
  have s0 : ∀ w, eProp "Net" m_Net_cords (eV 0) [some (.obj n), some (.int (i : Nat)), some (.str x), w] h = .ok (.tup (N.cords.map pairP)) h := fun w => prop_at (i := 0) D rfl (p_cords D)
  have ix : atI (N.cords.map pairP) (i : Int) = some (pairP e) := by rw [AM.atI_nat, List.getElem?_map, ee]; rfl
  have rt : m_row_times [rowP (N.wayD e), .tup [.int (-1), .int 1]] h = .ok (rowP (rowTimes (N.wayD e) (-1, 1))) h := rt
  have wy : m_way_of [.obj n, .int (i : Nat)] h = .ok (rowP (N.wayD e)) h := wy
  refine fn_rt0 ?_
  unfold b_way_from
  by_cases q : e.1 = x
  · have f : N.fromD e x = N.wayD e := by
      unfold NetR.fromD NetR.wayD
      rw [if_pos q.symm, q]
    rw [f]
    simp [wy, s0, ix, pairP, q]
  · have qx : x = e.2 := hx.resolve_left (Ne.symm q)
    have f : N.fromD e x = rowTimes (N.wayD e) (-1, 1) := by
      rw [from_turned V he]
      unfold NetR.fromD
      rw [if_neg (Ne.symm q), qx]
    have qb : (e.1 == x) = false := beq_eq_false_iff_ne.mpr q
    rw [f]
    simp [wy, s0, ix, pairP, qb, rt]
theorem at_cord {x : Str} {k : Nat} (hk : k ∈ N.cordsAt x) : ∃ e, N.cords[k]? = some e ∧ (x = e.1 ∨ x = e.2) := by
  unfold NetR.cordsAt at hk
  obtain ⟨z, hz, e⟩ := List.mem_filterMap.mp hk
  split at e
  · rename_i c
    cases e
    obtain ⟨_, q⟩ := enumF_mem hz
    rw [Nat.sub_zero] at q
    exact ⟨z.2, q, c⟩
  · cases e
/-- one more cord's pull, as the program adds it -/
def NetR.addD (N : NetR) (u : List Fr) (x : Str) (f : List Fr) (k : Nat) : List Fr := rowPlus f (rowTimes (N.fromD ((N.cords[k]?).getD (x, x)) x) (u.getD k (0, 1)))
def NetR.sumD (N : NetR) (u : List Fr) (x : Str) : List Fr := (N.cordsAt x).foldl (N.addD u x) (List.replicate N.coords (0, 1))
theorem add_ok (V : NetOk N) {x : Str} (hx : x ∈ N.names) (ub : RowOk b u) (ul : u.length = N.cords.length) {k : Nat} (hk : k ∈ N.cordsAt x) {m : Nat} {f : List Fr} (hf : RowOk m f ∧ f.length = N.coords) : RowOk (m + (22 + b)) (N.addD u x f k) ∧ (N.addD u x f k).length = N.coords := by
  obtain ⟨e, ee, c⟩ := at_cord hk
  obtain ⟨r, l⟩ := from_ok V (List.mem_of_getElem? ee) hx
  have kl := (List.getElem?_eq_some_iff.mp ee).1
  have uk : u.getD k (0, 1) = u[k]'(by omega) := by rw [List.getD_eq_getElem?_getD, List.getElem?_eq_getElem (by omega)]; rfl
  have uo := ub _ (List.getElem_mem (by omega : k < u.length))
  unfold NetR.addD
  rw [ee, uk]
  refine ⟨(hf.1.plus (r.times uo)).mono (by omega), ?_⟩
  unfold rowPlus
  rw [zip_len, times_len]
  show min f.length (N.fromD e x).length = _
  omega
theorem cordsAt_len (V : NetOk N) (x : Str) : (N.cordsAt x).length ≤ 20 := by
  unfold NetR.cordsAt
  have z := List.length_filterMap_le (fun z : Nat × Str × Str => if x = z.2.1 ∨ x = z.2.2 then some z.1 else none) (enumF 0 N.cords)
  rw [enumF_len] at z
  have := V.nc
  omega
theorem left_at (D : NetAt h n N) (V : NetOk N) {x : Str} (hx : x ∈ N.names) (ub : RowOk b u) (ul : u.length = N.cords.length) (l : 20 * (22 + b) + 100 + b < 8000) : m_left_at [.obj n, rowP u, .str x] h = .ok (rowP (N.sumD u x)) h ∧ RowOk (1 + 20 * (22 + b)) (N.sumD u x) ∧ (N.sumD u x).length = N.coords := by
  have c3 := V.c3
  have nc := V.nc
  have cl := cordsAt_len V x
  obtain ⟨t2, h2, e2, rfl, f, w4, rfl, ef, rf, lf⟩ := for_steps (S := ⟨(N.cordsAt x).map fun k => .int (k : Nat), []⟩) (h0 := h) (g := gN 4) (b := sA (eCall 2 m_row_plus (lC (eV 3) (lC (eCall 2 m_row_times (lC (eCall 3 m_way_from (lC (eV 0) (lC (eV 4) (lC (eV 2) lN)))) (lC (eB itemP (eV 1) (eV 4)) lN))) lN))) (gN 3))
    (fun k : Nat => P.int (k : Nat)) (fun i t h' => h' = h ∧ ∃ f w4, t = [some (.obj n), some (rowP u), some (.str x), some (rowP f), w4] ∧ f = ((N.cordsAt x).take i).foldl (N.addD u x) (List.replicate N.coords (0, 1)) ∧ RowOk (1 + i * (22 + b)) f ∧ f.length = N.coords)
    (fun i t h' _ => (still_none _ _ _).mpr trivial) (ys := N.cordsAt x) (i := 0)
    (fun j k ek t h' ⟨eh, f, w4, et, ef, rf, lf⟩ => by
      rw [Nat.zero_add] at ef rf ⊢
      subst eh et
      have hk := List.mem_of_getElem? ek
      have jl := (List.getElem?_eq_some_iff.mp ek).1
      obtain ⟨e, ee, ce⟩ := at_cord hk
      have kl := (List.getElem?_eq_some_iff.mp ee).1
      obtain ⟨r1, l1⟩ := from_ok V (List.mem_of_getElem? ee) hx
      have uk : u.getD k (0, 1) = u[k]'(by omega) := by rw [List.getD_eq_getElem?_getD, List.getElem?_eq_getElem (by omega)]; rfl
      have uo := ub _ (List.getElem_mem (by omega : k < u.length))
      have jm : j * (22 + b) ≤ 20 * (22 + b) := Nat.mul_le_mul_right _ (by omega)
      have wy := way_from D V ee ce
      have it : itemP (rowP u) (.int (k : Nat)) h' = .ok (ratP (u[k]'(by omega))) h' := by
        unfold rowP
        rw [item_tup, AM.atI_nat, List.getElem?_map, List.getElem?_eq_getElem (by omega)]
        rfl
      have tm := p_row_times h' r1 uo (by omega) (by omega)
      have pl := p_row_plus h' rf (r1.times uo) (by omega) (by omega)
      have ad : N.addD u x f k = rowPlus f (rowTimes (N.fromD e x) (u[k]'(by omega))) := by
        unfold NetR.addD
        rw [ee, uk]
        rfl
      have nx := add_ok V hx ub ul hk ⟨rf, lf⟩
      refine ⟨[some (.obj n), some (rowP u), some (.str x), some (rowP f), some (.int (k : Nat))], rfl, [some (.obj n), some (rowP u), some (.str x), some (rowP (N.addD u x f k)), some (.int (k : Nat))], h', ?_, rfl, _, _, rfl, ?_, nx.1.mono (by rw [Nat.add_mul]; omega), nx.2⟩
      · rw [ad]
        refine sA_ok ((eCall2_ok rfl ((eCall2_ok ((eCall3_ok rfl rfl rfl).trans wy) ?_).trans tm)).trans pl)
        rw [eB_at, eV_some (rfl : [some (P.obj n), some (rowP u), some (.str x), some (rowP f), some (.int (k : Nat))][1]? = _), Out.bind_ok, eV_some (rfl : [some (P.obj n), some (rowP u), some (.str x), some (rowP f), some (.int (k : Nat))][4]? = _), Out.bind_ok, it]
      · rw [List.take_succ, ek, List.foldl_append, ← ef]
        rfl) [some (.obj n), some (rowP u), some (.str x), some (rowP (List.replicate N.coords (0, 1))), none] h ⟨rfl, _, _, rfl, rfl, (noughts_ok _).mono (by omega), List.length_replicate⟩
  rw [Nat.zero_add, List.take_of_length_le (Nat.le_refl _)] at ef
  rw [Nat.zero_add] at rf
  have ef : f = N.sumD u x := ef
  rw [ef] at rf lf e2
  refine ⟨?_, rf.mono (by have := Nat.mul_le_mul_right (22 + b) cl; omega), lf⟩
  refine fn_rt0 ?_
  unfold b_left_at
  show (sQ _ _) [some (.obj n), some (rowP u), some (.str x), none, none] h2 = _
  refine (sq_nx (t' := [some (.obj n), some (rowP u), some (.str x), some (rowP (List.replicate N.coords (0, 1))), none]) (h' := h2) (sA_ok ((eCall1_ok rfl).trans (noughts_of D V)))).trans ?_
  refine (sq_nx ((sfor_ok (S := ⟨(N.cordsAt x).map fun k => .int (k : Nat), []⟩) (h1 := h2) ?_).trans e2)).trans ?_
  · rw [iSeq_at, (eCall2_ok rfl rfl).trans (cords_at D V hx), Out.bind_ok]
    rfl
  · rfl
/-! the plain law: both sums -/
theorem fold_pick {α β γ : Type} (g : β → Option γ) (f : α → γ → α) : ∀ (l : List β) (a : α), (l.filterMap g).foldl f a = l.foldl (fun a z => match g z with
    | some y => f a y
    | none => a) a
  | [], a => rfl
  | z :: l, a => by
    rw [List.filterMap_cons]
    cases e : g z with
    | none =>
      show (l.filterMap g).foldl f a = l.foldl _ (match g z with
        | some y => f a y
        | none => a)
      rw [e, fold_pick g f l a]
    | some y =>
      show (l.filterMap g).foldl f (f a y) = l.foldl _ (match g z with
        | some y => f a y
        | none => a)
      rw [e, fold_pick g f l (f a y)]
def NetR.stepD (N : NetR) (u : List Fr) (x : Str) (f : List Fr) (z : Nat × Str × Str) : List Fr := if x = z.2.1 ∨ x = z.2.2 then N.addD u x f z.1 else f
theorem sum_steps (u : List Fr) (x : Str) : N.sumD u x = (enumF 0 N.cords).foldl (N.stepD u x) (List.replicate N.coords (0, 1)) := by
  unfold NetR.sumD NetR.cordsAt
  rw [fold_pick]
  congr 1
  funext f z
  unfold NetR.stepD
  split <;> (split at * <;> simp_all)
/-- both sums, step by step -/
theorem sums_alike (V : NetOk N) {x : Str} (hx : x ∈ N.names) (ub : RowOk b u) (ul : u.length = N.cords.length) {w : Bool} (hw : w = true → x ∈ N.ringNames) : ∀ i, i ≤ N.cords.length →
    (RowOk (10 + i * (22 + b)) (((enumF 0 u).take i).foldl (N.pullD x) (N.startD x w)) ∧ (((enumF 0 u).take i).foldl (N.pullD x) (N.startD x w)).length = N.coords) ∧
    (RowOk (1 + i * (22 + b)) (((enumF 0 N.cords).take i).foldl (N.stepD u x) (List.replicate N.coords (0, 1))) ∧ (((enumF 0 N.cords).take i).foldl (N.stepD u x) (List.replicate N.coords (0, 1))).length = N.coords) ∧
    ∀ j, j < N.coords → at_ (((enumF 0 u).take i).foldl (N.pullD x) (N.startD x w)) j = at_ (N.startD x w) j + at_ (((enumF 0 N.cords).take i).foldl (N.stepD u x) (List.replicate N.coords (0, 1))) j
  | 0, _ => by
    obtain ⟨s1, s2⟩ := start_ok V hw
    refine ⟨⟨s1.mono (by omega), s2⟩, ⟨(noughts_ok _).mono (by omega), List.length_replicate⟩, fun j hj => ?_⟩
    show at_ (N.startD x w) j = at_ (N.startD x w) j + at_ (List.replicate N.coords (0, 1)) j
    rw [at_noughts hj, Rat.add_zero]
  | i + 1, hi => by
    obtain ⟨⟨a1, a2⟩, ⟨b1, b2⟩, c1⟩ := sums_alike V hx ub ul hw i (by omega)
    obtain ⟨e, ee⟩ : ∃ e, N.cords[i]? = some e := ⟨_, List.getElem?_eq_getElem (by omega)⟩
    obtain ⟨y, ey⟩ : ∃ y, u[i]? = some y := ⟨_, List.getElem?_eq_getElem (by omega)⟩
    have gu : (enumF 0 u)[i]? = some (i, y) := by
      have il : i < (enumF 0 u).length := by rw [enumF_len]; omega
      rw [List.getElem?_eq_getElem il]
      obtain ⟨q1, q2⟩ := enumF_get (List.getElem?_eq_getElem il)
      rw [ey] at q2
      rw [Nat.zero_add] at q1
      exact congrArg some (Prod.ext q1 (Option.some.inj q2).symm)
    have gc : (enumF 0 N.cords)[i]? = some (i, e) := by
      have il : i < (enumF 0 N.cords).length := by rw [enumF_len]; omega
      rw [List.getElem?_eq_getElem il]
      obtain ⟨q1, q2⟩ := enumF_get (List.getElem?_eq_getElem il)
      rw [ee] at q2
      rw [Nat.zero_add] at q1
      exact congrArg some (Prod.ext q1 (Option.some.inj q2).symm)
    rw [List.take_succ, List.take_succ, gu, gc, List.foldl_append, List.foldl_append]
    generalize ((enumF 0 u).take i).foldl (N.pullD x) (N.startD x w) = A at a1 a2 c1 ⊢
    generalize ((enumF 0 N.cords).take i).foldl (N.stepD u x) (List.replicate N.coords (0, 1)) = B at b1 b2 c1 ⊢
    show (RowOk _ (N.pullD x A (i, y)) ∧ _) ∧ (RowOk _ (N.stepD u x B (i, e)) ∧ _) ∧ _
    have yo := ub y (List.mem_of_getElem? ey)
    obtain ⟨fr, fl⟩ := from_ok V (List.mem_of_getElem? ee) hx
    have p1 := pull_ok V hx ⟨a1, a2⟩ (z := (i, y)) yo
    have gd : u.getD i (0, 1) = y := by rw [List.getD_eq_getElem?_getD, ey]; rfl
    have sd : N.stepD u x B (i, e) = if x = e.1 ∨ x = e.2 then rowPlus B (rowTimes (N.fromD e x) y) else B := by
      unfold NetR.stepD NetR.addD
      dsimp only
      rw [ee, gd]
      rfl
    have pd : N.pullD x A (i, y) = if (x = e.1 ∨ x = e.2) ∧ y.1 ≠ 0 then rowPlus A (rowTimes (N.fromD e x) y) else A := by
      unfold NetR.pullD
      rw [ee]
    have p2 : RowOk (1 + (i + 1) * (22 + b)) (N.stepD u x B (i, e)) ∧ (N.stepD u x B (i, e)).length = N.coords := by
      rw [sd]
      split
      · refine ⟨(b1.plus (fr.times yo)).mono (by rw [Nat.add_mul]; omega), ?_⟩
        unfold rowPlus
        rw [zip_len, times_len]
        omega
      · exact ⟨b1.mono (by rw [Nat.add_mul]; omega), b2⟩
    refine ⟨⟨p1.1.mono (by rw [Nat.add_mul]; omega), p1.2⟩, p2, fun j hj => ?_⟩
    show at_ (N.pullD x A (i, y)) j = at_ (N.startD x w) j + at_ (N.stepD u x B (i, e)) j
    rw [pd, sd]
    have lt : (rowTimes (N.fromD e x) y).length = N.coords := by rw [times_len]; exact fl
    by_cases q1 : x = e.1 ∨ x = e.2
    · rw [if_pos q1]
      have bt := at_plus b1 (fr.times yo) (j := j) (by omega) (by omega)
      have tt := at_times fr yo (j := j) (by omega)
      by_cases q2 : y.1 = 0
      · rw [if_neg (fun z => z.2 q2), bt, tt, val_zero q2, c1 j hj]
        generalize at_ (N.fromD e x) j = X
        grind
      · rw [if_pos ⟨q1, q2⟩, bt, at_plus a1 (fr.times yo) (by omega) (by omega), c1 j hj]
        grind
    · rw [if_neg q1, if_neg (fun z => q1 z.1)]
      exact c1 j hj
theorem left_same (V : NetOk N) {x : Str} (hx : x ∈ N.ringNames) (ub : RowOk b u) (ul : u.length = N.cords.length) (w : Bool) : N.leftD u x w = if w = true then rowPlus (N.sumD u x) (N.weightD x) else N.sumD u x := by
  have hn : x ∈ N.names := List.mem_append_right _ hx
  obtain ⟨⟨a1, a2⟩, ⟨b1, b2⟩, c1⟩ := sums_alike V hn ub ul (w := w) (fun _ => hx) N.cords.length (Nat.le_refl _)
  rw [List.take_of_length_le (by rw [enumF_len]; omega)] at a1 a2 c1
  rw [List.take_of_length_le (by rw [enumF_len]; omega)] at b1 b2
  rw [List.take_of_length_le (l := enumF 0 N.cords) (by rw [enumF_len]; omega), ← sum_steps] at c1
  rw [← sum_steps] at b1 b2
  have c1 : ∀ j, j < N.coords → at_ (N.leftD u x w) j = at_ (N.startD x w) j + at_ (N.sumD u x) j := c1
  have a1 : RowOk _ (N.leftD u x w) := a1
  have a2 : (N.leftD u x w).length = N.coords := a2
  obtain ⟨w1, w2⟩ := weight_ok V hx
  cases w with
  | true =>
    rw [if_pos rfl]
    have pl : (rowPlus (N.sumD u x) (N.weightD x)).length = N.coords := by
      unfold rowPlus
      rw [zip_len]
      omega
    refine rows_same a1 (b1.plus w1) (by omega) fun j hj => ?_
    rw [c1 j (by omega), at_plus b1 w1 (by omega) (by omega)]
    show at_ (N.weightD x) j + _ = _
    exact Rat.add_comm _ _
  | false =>
    rw [if_neg (by simp)]
    refine rows_same a1 b1 (by omega) fun j hj => ?_
    rw [c1 j (by omega)]
    show at_ (List.replicate N.coords (0, 1)) j + _ = _
    rw [at_noughts (by omega), Rat.zero_add]
end
end
end K14


/-! what pulls leave over: both tell the same -/
namespace K14
open PySem PySem.Spec PyProof.Rows L2 AM
noncomputable section
def NetR.leftR (N : NetR) (u : List Fr) (w : Bool) : List (List Fr) := N.ringNames.map fun x => N.leftD u x w
section
variable {h : AH} {k p r c n : Nat} {N : NetR} {b : Nat} {u : List Fr}
theorem are_pulls (D : NetAt h n N) (V : NetOk N) (ub : RowOk b u) (u0 : ∀ y ∈ u, 0 ≤ y.1) (ul : u.length = N.cords.length) : m_are_pulls [.obj n, rowP u] h = .ok (.bl true) h := by
  have nc := V.nc
  have s0 := prop_at (i := 0) (t := [some (.obj n), some (rowP u), none]) D rfl (p_cords D)
  have it := p_is_tuple (u.map ratP) (N.cords.length : Nat) (N.cords.length : Nat) h
  rw [List.length_map, ul, decide_eq_true (Int.le_refl _)] at it
  have it : m_is_tuple [rowP u, .int (N.cords.length : Nat), .int (N.cords.length : Nat)] h = .ok (.bl true) h := it
  have e := lc_map0 (ys := u) (h := h) (g := gN 2) (e := eCall 1 m_is_rate (lC (eV 2) lN)) (t := [some (.obj n), some (rowP u), none]) ratP (fun _ => .bl true) (by omega) (fun y hy hh => by
    have z := p_is_rate hh (ub y hy)
    rw [decide_eq_true (u0 y hy)] at z
    exact ⟨_, rfl, by simp [z], rfl⟩)
  have e3 := f_all (u.map fun _ => true) h
  rw [List.map_map] at e3
  simp only [Function.comp_def] at e3
  have a1 : (u.map fun _ => true).all id = true := by simp
  rw [a1] at e3
  refine fn_rt0 ?_
  unfold b_are_pulls
  have lc : eCB fAll (lC (eLc (iSeq (eV 1)) [2] (gN 2) tY (eCall 1 m_is_rate (lC (eV 2) lN))) lN) [some (.obj n), some (rowP u), none] h = .ok (.bl true) h := by
    rw [eCB_at, lC_at, eLc_at, iSeq_at, eV_some (rfl : [some (P.obj n), some (rowP u), none][1]? = _), Out.bind_ok]
    show Out.bind (Out.bind (Out.bind (srcSeq (.tup (u.map ratP)) h) _) _) _ = _
    rw [src_tup, Out.bind_ok, show wipeL [some (P.obj n), some (rowP u), none] [2] = [some (.obj n), some (rowP u), none] from rfl, e, Out.bind_ok, lN_at, Out.bind_ok, Out.bind_ok]
    exact e3
  have tt : eCall 3 m_is_tuple (lC (eV 1) (lC (eCB fLen (lC (eProp "Net" m_Net_cords (eV 0)) lN)) (lC (eCB fLen (lC (eProp "Net" m_Net_cords (eV 0)) lN)) lN))) [some (.obj n), some (rowP u), none] h = .ok (.bl true) h := by
    simp [s0, it]
  show sR _ [some (.obj n), some (rowP u), none] h = _
  rw [sR_at, eAn_at, tt, Out.bind_ok]
  dsimp only [truth_bl]
  rw [lc]
  rfl
theorem src_mix (xs ys : List P) (h : AH) : srcZm [.lst xs, .tup ys] h = .ok ⟨zipP xs ys, []⟩ h := by
  unfold srcZm
  dsimp only
  rw [if_pos ⟨rfl, rfl⟩]
  rfl
theorem left_over (D : NetAt h n N) (V : NetOk N) (ub : RowOk b u) (u0 : ∀ y ∈ u, 0 ≤ y.1) (ul : u.length = N.cords.length) (l : 20 * (22 + b) + 100 + b < 8000) (w : Bool) : m_left_over [.obj n, rowP u, .bl w] h = .ok (plP (N.leftR u w)) h := by
  have nr := V.nr
  have c3 := V.c3
  have ap := are_pulls D V ub u0 ul
  have ck : m_check_pulls [.obj n, rowP u] h = .ok .non h := by
    refine fn_nx0 (t := [some (.obj n), some (rowP u)]) ?_
    unfold b_check_pulls
    simp [ap]
  have rl : N.ringNames.length = N.rings.length := by unfold NetR.ringNames; rw [List.length_map]
  have s0 : ∀ a b c d hh, NetAt hh n N → eProp "Net" m_Net_rings (eV 0) [some (.obj n), a, b, c, d, none] hh = .ok (.tup (N.ringNames.map P.str)) hh := fun a b c d hh D => prop_at (i := 0) D rfl (p_rings D)
  have e1 := lc_map (ys := N.ringNames) (h := h) (g := gN 4) (e := eCall 3 m_left_at (lC (eV 0) (lC (eV 1) (lC (eV 4) lN)))) (t := [some (.obj n), some (rowP u), some (.bl w), none, none, none]) P.str (fun x => rowP (N.sumD u x)) (by omega) (fun x hx acc => by
    have hn : x ∈ N.names := List.mem_append_right _ hx
    exact ⟨[some (.obj n), some (rowP u), some (.bl w), none, some (.str x), none], [], rfl, by rw [List.append_nil]; exact (eCall3_ok rfl rfl rfl).trans (left_at D.app V hn ub ul l).1, clean_row _ _⟩)
  have el1 : eLc (iSeq (eProp "Net" m_Net_rings (eV 0))) [4] (gN 4) tY (eCall 3 m_left_at (lC (eV 0) (lC (eV 1) (lC (eV 4) lN)))) [some (.obj n), some (rowP u), some (.bl w), none, none, none] h = .ok (.lst (N.ringNames.map fun x => rowP (N.sumD u x))) h := by
    rw [eLc_at, iSeq_at, s0 _ _ _ _ h D, Out.bind_ok, src_tup, Out.bind_ok]
    exact e1
  have fin : ∀ (t : AM.Loc), t[3]? = some (some (.lst ((N.leftR u w).map rowP))) → sR (eCB fTup (lC (eV 3) lN)) t h = .rt (plP (N.leftR u w)) h := fun t et => by
    rw [sR_at, eCB_at, lC_at, eV_some et, Out.bind_ok, lN_at, Out.bind_ok, Out.bind_ok, f_tup_lst]
    rfl
  refine fn_rt0 ?_
  unfold b_left_over
  show (sQ _ _) [some (.obj n), some (rowP u), some (.bl w), none, none, none] h = _
  refine (sq_nx (t' := [some (.obj n), some (rowP u), some (.bl w), none, none, none]) (h' := h) (by rw [sE_at, (eCall2_ok rfl rfl).trans ck]; rfl)).trans ?_
  refine (sq_nx (t' := [some (.obj n), some (rowP u), some (.bl w), none, none, none]) (h' := h) (by simp [tyB])).trans ?_
  refine (sq_nx (t' := [some (.obj n), some (rowP u), some (.bl w), some (.lst (N.ringNames.map fun x => rowP (N.sumD u x))), none, none]) (h' := h) (sA_ok el1)).trans ?_
  cases w with
  | false =>
    refine (sq_nx (t' := [some (.obj n), some (rowP u), some (.bl false), some (.lst (N.ringNames.map fun x => rowP (N.sumD u x))), none, none]) (h' := h) ((sIf_ok (k := false) rfl).trans rfl)).trans (fin _ ?_)
    have q : (N.leftR u false).map rowP = N.ringNames.map fun x => rowP (N.sumD u x) := by
      unfold NetR.leftR
      rw [List.map_map]
      refine List.map_congr_left fun x hx => ?_
      show rowP (N.leftD u x false) = _
      rw [left_same V hx ub ul false]
      rfl
    rw [q]
    rfl
  | true =>
    have e2 := lc_map (ys := N.ringNames) (h := h) (g := gT 2 (gsC (gN 5) (gsC (gN 4) gsN))) (e := eCall 2 m_row_plus (lC (eV 5) (lC (eCall 2 m_weight_of (lC (eV 0) (lC (eV 4) lN))) lN))) (t := [some (.obj n), some (rowP u), some (.bl true), some (.lst (N.ringNames.map fun x => rowP (N.sumD u x))), none, none]) (fun x => .tup [rowP (N.sumD u x), .str x]) (fun x => rowP (N.leftD u x true)) (by omega) (fun x hx acc => by
      have hn : x ∈ N.names := List.mem_append_right _ hx
      obtain ⟨_, q1, q2⟩ := left_at D V hn ub ul l
      obtain ⟨z1, z2, z3⟩ := weight_ring (D.app (j := [.lst acc])) V hx
      have pl := p_row_plus (h ++ [.lst acc]) q1 z2 (by omega) (by omega)
      have ls := left_same V hx ub ul true
      rw [if_pos rfl] at ls
      rw [ls]
      exact ⟨[some (.obj n), some (rowP u), some (.bl true), some (.lst (N.ringNames.map fun x => rowP (N.sumD u x))), some (.str x), some (rowP (N.sumD u x))], [], rfl, by rw [List.append_nil]; exact (eCall2_ok rfl ((eCall2_ok rfl rfl).trans z1)).trans pl, clean_row _ _⟩)
    have zp : srcZm [.lst (N.ringNames.map fun x => rowP (N.sumD u x)), .tup (N.ringNames.map P.str)] h = .ok ⟨N.ringNames.map fun x => .tup [rowP (N.sumD u x), .str x], []⟩ h := by
      rw [src_mix]
      rw [zipP_map]
      congr 2
      rw [show (N.ringNames.zip N.ringNames) = N.ringNames.map fun x => (x, x) from by
        generalize N.ringNames = l
        induction l with
        | nil => rfl
        | cons a l ih => rw [List.zip_cons_cons, ih]; rfl, List.map_map]
      rfl
    have el2 : eLc (iZm (lC (eV 3) (lC (eProp "Net" m_Net_rings (eV 0)) lN))) [5, 4] (gT 2 (gsC (gN 5) (gsC (gN 4) gsN))) tY (eCall 2 m_row_plus (lC (eV 5) (lC (eCall 2 m_weight_of (lC (eV 0) (lC (eV 4) lN))) lN))) [some (.obj n), some (rowP u), some (.bl true), some (.lst (N.ringNames.map fun x => rowP (N.sumD u x))), none, none] h = .ok (.lst (N.ringNames.map fun x => rowP (N.leftD u x true))) h := by
      have im : iZm (lC (eV 3) (lC (eProp "Net" m_Net_rings (eV 0)) lN)) [some (.obj n), some (rowP u), some (.bl true), some (.lst (N.ringNames.map fun x => rowP (N.sumD u x))), none, none] h = srcZm [.lst (N.ringNames.map fun x => rowP (N.sumD u x)), .tup (N.ringNames.map P.str)] h := by
        show (lC (eV 3) (lC (eProp "Net" m_Net_rings (eV 0)) lN) _ h).bind srcZm = _
        rw [lC_at, eV_some (rfl : [some (P.obj n), some (rowP u), some (.bl true), some (.lst (N.ringNames.map fun x => rowP (N.sumD u x))), none, none][3]? = _), Out.bind_ok, lC_at, s0 _ _ _ _ h D, Out.bind_ok, lN_at, Out.bind_ok, Out.bind_ok, Out.bind_ok]
      rw [eLc_at, im, zp, Out.bind_ok]
      exact e2
    refine (sq_nx (t' := [some (.obj n), some (rowP u), some (.bl true), some (.lst (N.ringNames.map fun x => rowP (N.leftD u x true))), none, none]) (h' := h) ((sIf_ok (k := true) rfl).trans ((if_pos rfl).trans (sA_ok el2)))).trans (fin _ ?_)
    unfold NetR.leftR
    rw [List.map_map]
    rfl
theorem law_left (D : OwnAt h k p r c N) (V : NetOk N) (ub : RowOk b u) (ul : u.length = N.cords.length) (l : 20 * (22 + b) + 100 + b < 8000) (w : Bool) : m__law_left [.obj k, rowP u, .bl w] h = .ok (plP (N.leftR u w)) h ∧ ∀ row ∈ N.leftR u w, RowOk (10 + u.length * (22 + b)) row ∧ row.length = N.coords := by
  have nr := V.nr
  have nc := V.nc
  have ml : u.length * (22 + b) ≤ 20 * (22 + b) := Nat.mul_le_mul_right _ (by omega)
  have rl : N.ringNames.length = N.rings.length := by unfold NetR.ringNames; rw [List.length_map]
  have rn := own_ringNames D (by omega)
  refine ⟨?_, fun row hrow => ?_⟩
  · have e1 := lc_map (ys := N.ringNames) (h := h) (g := gN 3) (e := eCall 4 m__law_net_left (lC (eV 0) (lC (eV 1) (lC (eV 3) (lC (eV 2) lN))))) (t := [some (.obj k), some (rowP u), some (.bl w), none]) P.str (fun x => rowP (N.leftD u x w)) (by omega) (fun x hx acc => by
      have hn : x ∈ N.names := List.mem_append_right _ hx
      exact ⟨[some (.obj k), some (rowP u), some (.bl w), some (.str x)], [], rfl, by rw [List.append_nil]; exact (eCall4_ok rfl rfl rfl rfl).trans (own_left D.app V hn (w := w) (fun _ => hx) ub (by omega) (by omega) (.inr rfl)).1, clean_row _ _⟩)
    refine fn_rt0 ?_
    unfold b__law_left
    show sR _ [some (.obj k), some (rowP u), some (.bl w), none] h = _
    rw [sR_at, eCB_at, lC_at, eLc_at, iSeq_at, (eCall1_ok rfl).trans rn, Out.bind_ok, src_lst, Out.bind_ok, show wipeL [some (P.obj k), some (rowP u), some (.bl w), none] [3] = [some (.obj k), some (rowP u), some (.bl w), none] from rfl]
    dsimp only
    rw [e1, Out.bind_ok, lN_at, Out.bind_ok, Out.bind_ok, f_tup_lst]
    show OutS.rt (.tup _) h = .rt (.tup ((N.leftR u w).map rowP)) h
    unfold NetR.leftR
    rw [List.map_map]
    rfl
  · obtain ⟨x, hx, rfl⟩ := List.mem_map.mp hrow
    have hn : x ∈ N.names := List.mem_append_right _ hx
    obtain ⟨_, q1, q2⟩ := own_left D V hn (w := w) (fun _ => hx) ub (by omega) (by omega) (q := rowP u) (.inr rfl)
    exact ⟨q1, q2⟩
end
end
end K14


/-! what pulls leave over: the law -/
namespace K14
open PySem PySem.Spec PyProof.Rows L2 AM
noncomputable section
theorem perm3b (x y z : P) : permL [2, 1, 0] [] [x, y, z] = [z, y, x] := rfl
theorem eCallK3_ok {f : Fn} {a b d : EM} {t : AM.Loc} {h h1 h2 h3 : AH} {x y z : P} (e1 : a t h = .ok x h1) (e2 : b t h1 = .ok y h2) (e3 : d t h2 = .ok z h3) : eCallK 0 3 3 [2, 1, 0] f lN (lC a (lC b (lC d lN))) t h = f [z, y, x] h3 := by
  show ((lN t h).bind fun xs h1 => (lC a (lC b (lC d lN)) t h1).bind fun ys h2 => if xs.length = 0 ∧ ys.length = 3 ∧ (permL [2, 1, 0] xs ys).length = 3 then f (permL [2, 1, 0] xs ys) h2 else .bad) = _
  rw [lN_at, Out.bind_ok, lC_at, e1, Out.bind_ok, lC_at, e2, Out.bind_ok, lC_at, e3, Out.bind_ok, lN_at, Out.bind_ok, Out.bind_ok, Out.bind_ok, Out.bind_ok, perm3b]
  exact if_pos ⟨rfl, rfl, rfl⟩
def pullsT2 : List Fr := [(0, 1), (1, 1), (2, 1), (1, 2), (7, 3), (1, 9), (1000, 1), (0, 1)]
def byT : List Fr := [(3, 1), (1, 2), (0, 1), (5, 7)]
theorem tabs_ok : ∀ x ∈ pullsT2 ++ byT, FrOk 10 x ∧ 0 ≤ x.1 := by
  intro x hx
  have c : x ∈ pullsT2 ++ byT → (0 < x.2 ∧ x.1.natAbs < 2 ^ 10 ∧ x.2.natAbs < 2 ^ 10 ∧ Int.gcd x.1 x.2 = 1) ∧ 0 ≤ x.1 := by
    revert x
    decide +kernel
  obtain ⟨⟨a, b, c, d⟩, e⟩ := c hx
  exact ⟨⟨a, b, c, d⟩, e⟩
theorem fr_nonneg {a b : Int} (h : 0 ≤ a) : 0 ≤ (fr a b).1 := by
  unfold fr
  exact Int.ediv_nonneg h (by omega)
theorem plus_nonneg {n m : Nat} {x y : Fr} (hx : FrOk n x) (hy : FrOk m y) (h1 : 0 ≤ x.1) (h2 : 0 ≤ y.1) : 0 ≤ (plusF x y).1 := by
  have := hx.pos
  have := hy.pos
  exact fr_nonneg (Int.add_nonneg (Int.mul_nonneg h1 (by omega)) (Int.mul_nonneg h2 (by omega)))
theorem times_nonneg {x y : Fr} (h1 : 0 ≤ x.1) (h2 : 0 ≤ y.1) : 0 ≤ (timesF x y).1 := fr_nonneg (Int.mul_nonneg h1 h2)
section
variable {h : AH} {k p r c n nn : Nat} {N : NetR} {T : Nat} {o o' : O}
theorem NetAt.pot {M : NetR} (D : NetAt h nn M) (e : h[n]? = some o) (cu : Cup T o) (o' : O) : NetAt (h.set n o') nn M := by
  obtain ⟨d, fs, e1, e2, e3, e4, ⟨q, q2, gs, f1, f2, f3, f4, f5, f6⟩⟩ := D.ex
  have nd : ∀ {i : Nat} {l : List (Key × P)}, h[i]? = some (.dct l) → n ≠ i := fun z y => by
    subst y
    exact cu.not_dct (Option.some.inj (e.symm.trans z))
  have ni : ∀ {i : Nat} {C : Str} {l : List (Option P)}, h[i]? = some (.ins C l) → n ≠ i := fun z y => by
    subst y
    exact cu.not_ins (Option.some.inj (e.symm.trans z))
  exact ⟨d, fs, (set_off (ni e1)).trans e1, e2, e3, e4, ⟨q, q2, gs, (set_off (ni f1)).trans f1, f2, f3, f4, (set_off (nd f5)).trans f5, (set_off (nd f6)).trans f6⟩⟩
/-- pulls for all cords -/
theorem cup_pulls (D : OwnAt h k p r c N) (e : h[n]? = some o) (cu : Cup T o) (lc : N.cords.length ≤ 9) (l : T + 20 < 1000000) :
    ∃ (u : List Fr) (o' : O), u.length = N.cords.length ∧ (∀ x ∈ u, x ∈ pullsT2) ∧ Cup (T + 9) o' ∧ m__law_pulls_drawn [.obj n, .obj k] h = .ok (rowP u) (h.set n o') := by
  obtain ⟨n1, n2, n3, n4⟩ := D.off e cu
  have l5 := (List.getElem?_eq_some_iff.mp D.hc).1
  obtain ⟨u, o', lu, hu, cu', z⟩ := lc_pot (S := ⟨N.cords.map pairP, [c]⟩) (h := h) (n := n) (g := gN 3) (e := eCall 2 m__law_of (lC (eV 0) (lC (eV 2) lN))) (t := [some (.obj n), some (.obj k), some (.lst (pullsT2.map ratP)), none]) pairP ratP 1 (fun _ => rfl) (fun x => x ∈ pullsT2) e (fun m hm => by
    have hm : m = c := by simpa using hm
    subst hm
    exact ⟨Ne.symm n4, l5⟩) (T + 9) (ys := N.cords) (acc := []) (o := o) (T := T) (by omega) cu (by simp; omega)
    (fun y hy acc o1 T1 c1 l1 => by
      have at1 : (h.set n o1 ++ [O.lst acc])[n]? = some o1 := get_app (set_at e)
      obtain ⟨q, o2, hq, c2, z⟩ := cup_of at1 c1 (by omega) (xs := pullsT2.map ratP) (by decide) (by decide)
      obtain ⟨x, hx, rfl⟩ := List.mem_map.mp hq
      rw [set_app (set_at e), List.set_set] at z
      exact ⟨[some (.obj n), some (.obj k), some (.lst (pullsT2.map ratP)), some (pairP y)], rfl, x, o2, hx, c2, (eCall2_ok rfl rfl).trans z⟩)
  rw [set_self e] at z
  refine ⟨u, o', lu, hu, cu'.mono (by omega), mkFn_len ?_ (by simp)⟩
  unfold b__law_pulls_drawn
  show (sQ _ _) [some (.obj n), some (.obj k), none, none] h = _
  refine (sq_nx (t' := [some (.obj n), some (.obj k), some (.lst (pullsT2.map ratP)), none]) (h' := h) (sA_ok (by simp; rfl))).trans ?_
  rw [sR_at, eCB_at, lC_at, eLc_at, iSeq_at, eItem_ok rfl (own_cords D), Out.bind_ok, src_obj D.hc, Out.bind_ok, show wipeL [some (P.obj n), some (.obj k), some (.lst (pullsT2.map ratP)), none] [3] = [some (.obj n), some (.obj k), some (.lst (pullsT2.map ratP)), none] from rfl]
  dsimp only
  rw [z, Out.bind_ok, lN_at, Out.bind_ok, Out.bind_ok, f_tup_lst]
  rfl
theorem keep_own {h' : AH} (D : OwnAt h k p r c N) (e : ∀ i, i < h.length → h'[i]? = h[i]?) : OwnAt h' k p r c N :=
  ⟨(e _ (List.getElem?_eq_some_iff.mp D.own).1).trans D.own, (e _ (List.getElem?_eq_some_iff.mp D.hp).1).trans D.hp, (e _ (List.getElem?_eq_some_iff.mp D.hr).1).trans D.hr, (e _ (List.getElem?_eq_some_iff.mp D.hc).1).trans D.hc, D.pr, D.pc, D.rc⟩
/-- one row of pulls, with the weight and without -/
theorem one_pulls {M : NetR} (eM : M = { N with text := N.textW }) (D : OwnAt h k p r c N) (DN : NetAt h nn M) (V : OwnOk N) {u : List Fr} (ub : RowOk 21 u) (u0 : ∀ y ∈ u, 0 ≤ y.1) (ul : u.length = N.cords.length) {w0 w3 w4 w5 w6 w7 w9 : Option P} :
    ∃ v : Option P, sFor (iSeq (eTup (lC (eC (.bl true)) (lC (eC (.bl false)) lN)))) (gN 9) (sIf (tCp neP (eCB fRepr (lC (eCallK 0 3 3 [2, 1, 0] m_left_over lN (lC (eV 9) (lC (eV 8) (lC (eV 2) lN)))) lN)) (eCB fRepr (lC (eCall 3 m__law_left (lC (eV 1) (lC (eV 8) (lC (eV 9) lN)))) lN))) (sR (eC (.bl false))) sNx)
      [w0, some (.obj k), some (.obj nn), w3, w4, w5, w6, w7, some (rowP u), w9] h = .nx [w0, some (.obj k), some (.obj nn), w3, w4, w5, w6, w7, some (rowP u), v] h := by
  have VN : NetOk N := V.net
  have VM : NetOk M := by
    subst eM
    exact ⟨VN.c1, VN.c3, VN.nd, VN.np, VN.nr, VN.nc, VN.peg, VN.ring, VN.cord⟩
  have nc := V.nc
  have c3 := V.c3
  have fw := V.few
  have same : ∀ w, M.leftR u w = N.leftR u w := fun w => by
    subst eM
    rfl
  have ulM : u.length = M.cords.length := by
    subst eM
    exact ul
  have ml : u.length * (22 + 21) ≤ 9 * (22 + 21) := Nat.mul_le_mul_right _ (by omega)
  obtain ⟨t2, h2, e2, rfl, v, rfl⟩ := for_steps (S := ⟨[true, false].map P.bl, []⟩) (h0 := h) (g := gN 9) (b := sIf (tCp neP (eCB fRepr (lC (eCallK 0 3 3 [2, 1, 0] m_left_over lN (lC (eV 9) (lC (eV 8) (lC (eV 2) lN)))) lN)) (eCB fRepr (lC (eCall 3 m__law_left (lC (eV 1) (lC (eV 8) (lC (eV 9) lN)))) lN))) (sR (eC (.bl false))) sNx)
    P.bl (fun i t h' => h' = h ∧ ∃ v, t = [w0, some (.obj k), some (.obj nn), w3, w4, w5, w6, w7, some (rowP u), v]) (fun i t h' _ => (still_none _ _ _).mpr trivial) (ys := [true, false]) (i := 0)
    (fun j w ew t h' ⟨eh, v, et⟩ => by
      subst eh et
      refine ⟨[w0, some (.obj k), some (.obj nn), w3, w4, w5, w6, w7, some (rowP u), some (.bl w)], rfl, [w0, some (.obj k), some (.obj nn), w3, w4, w5, w6, w7, some (rowP u), some (.bl w)], h', ?_, rfl, _, rfl⟩
      have z1 := left_over DN VM ub u0 ulM (by omega) w
      rw [same w] at z1
      obtain ⟨z2, z3⟩ := law_left D VN ub ul (by omega) w
      have rp := repr_pl (rows := N.leftR u w) (fun row hrow => ⟨(z3 row hrow).1.mono (by omega), by rw [(z3 row hrow).2]; omega⟩) (by unfold NetR.leftR NetR.ringNames; rw [List.length_map, List.length_map]; omega) h'
      have a1 : eCB fRepr (lC (eCallK 0 3 3 [2, 1, 0] m_left_over lN (lC (eV 9) (lC (eV 8) (lC (eV 2) lN)))) lN) [w0, some (.obj k), some (.obj nn), w3, w4, w5, w6, w7, some (rowP u), some (.bl w)] h' = .ok (.str (plD (N.leftR u w)).shown) h' := by
        rw [eCB_at, lC_at, (eCallK3_ok rfl rfl rfl).trans z1, Out.bind_ok, lN_at, Out.bind_ok, Out.bind_ok, rp]
      have a2 : eCB fRepr (lC (eCall 3 m__law_left (lC (eV 1) (lC (eV 8) (lC (eV 9) lN)))) lN) [w0, some (.obj k), some (.obj nn), w3, w4, w5, w6, w7, some (rowP u), some (.bl w)] h' = .ok (.str (plD (N.leftR u w)).shown) h' := by
        rw [eCB_at, lC_at, (eCall3_ok rfl rfl rfl).trans z2, Out.bind_ok, lN_at, Out.bind_ok, Out.bind_ok, rp]
      have ct : tCp neP (eCB fRepr (lC (eCallK 0 3 3 [2, 1, 0] m_left_over lN (lC (eV 9) (lC (eV 8) (lC (eV 2) lN)))) lN)) (eCB fRepr (lC (eCall 3 m__law_left (lC (eV 1) (lC (eV 8) (lC (eV 9) lN)))) lN)) [w0, some (.obj k), some (.obj nn), w3, w4, w5, w6, w7, some (rowP u), some (.bl w)] h' = .ok false h' := by
        rw [tCp_at, a1, Out.bind_ok, a2, Out.bind_ok, cmp_ne_str, beq_self_eq_true]
        rfl
      rw [sIf_ok ct]
      rfl) [w0, some (.obj k), some (.obj nn), w3, w4, w5, w6, w7, some (rowP u), w9] h ⟨rfl, _, rfl⟩
  exact ⟨v, (sfor_ok (S := ⟨[true, false].map P.bl, []⟩) (h1 := h2) rfl).trans e2⟩
end
theorem law_right {h : AH} {n : Nat} {o : O} (e : h[n]? = some o) (cu : Cup 0 o) : ∃ h', m__law_right [.obj n] h = .ok (.bl true) h' ∧ h.length ≤ h'.length ∧ ∀ i, i < h.length → i ≠ n → h'[i]? = h[i]? := by
  obtain ⟨k, p, r, c, N, h1, z1, S1, V, np, rm, k0, p0, r0, c0, hl1, K1⟩ := st_drawn e cu (by omega) (most := 4) (by decide)
  have z1 : m__law_net_drawn [.obj n, .int 4] h = .ok (.obj k) h1 := z1
  obtain ⟨o1, at1, cu1⟩ := S1.pot
  have tx := own_text S1.own V
  obtain ⟨h2, z2, DN2, K2⟩ := own_net V np h1
  have n1 := (List.getElem?_eq_some_iff.mp at1).1
  have at2 := (K2 n n1).trans at1
  have D2 := keep_own S1.own K2
  obtain ⟨P3, o3, m3, cu3, z3⟩ := cup_of at2 cu1 (by omega) (xs := byT.map ratP) (by decide) (by decide)
  obtain ⟨y, hy, rfl⟩ := List.mem_map.mp m3
  obtain ⟨yo, y0⟩ := tabs_ok y (List.mem_append_right _ hy)
  have D3 := D2.set at2 cu1 o3
  have at3 := set_at (o := o3) at2
  obtain ⟨u1, o4, l1, m1, cu4, z4⟩ := cup_pulls D3 at3 cu3 V.nc (by omega)
  have D4 := D3.set at3 cu3 o4
  have at4 := set_at (o := o4) at3
  obtain ⟨u2, o5, l2, m2, cu5, z5⟩ := cup_pulls D4 at4 cu4 V.nc (by omega)
  have D5 := D4.set at4 cu4 o5
  have DN5 := ((DN2.pot at2 cu1 o3).pot at3 cu3 o4).pot at4 cu4 o5
  rw [List.set_set] at z4 D4 at4 z5 D5 DN5
  rw [List.set_set] at z5 D5 DN5
  have b1 : RowOk 10 u1 := fun x hx => (tabs_ok x (List.mem_append_left _ (m1 x hx))).1
  have b2 : RowOk 10 u2 := fun x hx => (tabs_ok x (List.mem_append_left _ (m2 x hx))).1
  have p1 : ∀ x ∈ u1, 0 ≤ x.1 := fun x hx => (tabs_ok x (List.mem_append_left _ (m1 x hx))).2
  have p2 : ∀ x ∈ u2, 0 ≤ x.1 := fun x hx => (tabs_ok x (List.mem_append_left _ (m2 x hx))).2
  have nc := V.nc
  have rp := o_row_plus (h2.set n o5) b1 b2 (by omega) (by omega)
  have rt := o_row_times (h2.set n o5) b1 yo (by omega) (by omega)
  have mr := mul_row (c := false) N.cords.length (h2.set n o5) (by omega)
  have lp : (rowPlus u1 u2).length = N.cords.length := by
    unfold rowPlus
    rw [zip_len]
    omega
  have ltm : (rowTimes u1 y).length = N.cords.length := by rw [times_len]; exact l1
  have all : ∀ u ∈ [u1, u2, rowPlus u1 u2, rowTimes u1 y, List.replicate N.cords.length ((0, 1) : Fr)], RowOk 21 u ∧ (∀ x ∈ u, 0 ≤ x.1) ∧ u.length = N.cords.length := by
    intro u hu
    simp only [List.mem_cons, List.not_mem_nil, or_false] at hu
    rcases hu with rfl | rfl | rfl | rfl | rfl
    · exact ⟨b1.mono (by omega), p1, l1⟩
    · exact ⟨b2.mono (by omega), p2, l2⟩
    · refine ⟨(b1.plus b2).mono (by omega), fun x hx => ?_, lp⟩
      unfold rowPlus zipF at hx
      obtain ⟨z, hz, rfl⟩ := List.mem_map.mp hx
      obtain ⟨q1, q2⟩ := List.of_mem_zip hz
      exact plus_nonneg (b1 _ q1) (b2 _ q2) (p1 _ q1) (p2 _ q2)
    · refine ⟨(b1.times yo).mono (by omega), fun x hx => ?_, ltm⟩
      unfold rowTimes at hx
      obtain ⟨z, hz, rfl⟩ := List.mem_map.mp hx
      exact times_nonneg (p1 z hz) y0
    · exact ⟨(noughts_ok _).mono (by omega), fun x hx => by rw [(List.mem_replicate.mp hx).2]; decide, List.length_replicate⟩
  obtain ⟨t6, h6, z6, rfl, v8, v9, rfl⟩ := for_steps (S := ⟨[u1, u2, rowPlus u1 u2, rowTimes u1 y, List.replicate N.cords.length ((0, 1) : Fr)].map rowP, []⟩) (h0 := h2.set n o5) (g := gN 8)
    (b := sFor (iSeq (eTup (lC (eC (.bl true)) (lC (eC (.bl false)) lN)))) (gN 9) (sIf (tCp neP (eCB fRepr (lC (eCallK 0 3 3 [2, 1, 0] m_left_over lN (lC (eV 9) (lC (eV 8) (lC (eV 2) lN)))) lN)) (eCB fRepr (lC (eCall 3 m__law_left (lC (eV 1) (lC (eV 8) (lC (eV 9) lN)))) lN))) (sR (eC (.bl false))) sNx))
    rowP (fun i t h' => h' = h2.set n o5 ∧ ∃ v8 v9, t = [some (.obj n), some (.obj k), some (.obj h1.length), some (ratP y), some (rowP u1), some (rowP u2), some (rowP (rowPlus u1 u2)), some (rowP (rowTimes u1 y)), v8, v9])
    (fun i t h' _ => (still_none _ _ _).mpr trivial) (ys := [u1, u2, rowPlus u1 u2, rowTimes u1 y, List.replicate N.cords.length ((0, 1) : Fr)]) (i := 0)
    (fun j u eu t h' ⟨eh, v8, v9, et⟩ => by
      subst eh et
      obtain ⟨q1, q2, q3⟩ := all u (List.mem_of_getElem? eu)
      obtain ⟨v, z⟩ := one_pulls rfl D5 DN5 V q1 q2 q3 (w0 := some (.obj n)) (w3 := some (ratP y)) (w4 := some (rowP u1)) (w5 := some (rowP u2)) (w6 := some (rowP (rowPlus u1 u2))) (w7 := some (rowP (rowTimes u1 y))) (w9 := v9)
      exact ⟨[some (.obj n), some (.obj k), some (.obj h1.length), some (ratP y), some (rowP u1), some (rowP u2), some (rowP (rowPlus u1 u2)), some (rowP (rowTimes u1 y)), some (rowP u), v9], rfl, _, _, z, rfl, _, _, rfl⟩)
    [some (.obj n), some (.obj k), some (.obj h1.length), some (ratP y), some (rowP u1), some (rowP u2), some (rowP (rowPlus u1 u2)), some (rowP (rowTimes u1 y)), none, none] (h2.set n o5) ⟨rfl, _, _, rfl⟩
  have ll := len_lst D5.hc
  rw [List.length_map] at ll
  have bd : b__law_right [some (.obj n), none, none, none, none, none, none, none, none, none] h = .rt (.bl true) (h2.set n o5) := by
    unfold b__law_right
    refine (sq_nx (t' := [some (.obj n), some (.obj k), none, none, none, none, none, none, none, none]) (h' := h1) (sA_ok ((eCall2_ok rfl rfl).trans z1))).trans ?_
    refine (sq_nx (t' := [some (.obj n), some (.obj k), some (.obj h1.length), some (ratP y), none, none, none, none, none, none]) (h' := h2.set n o3) ?_).trans ?_
    · have z3 : m__law_of [.obj n, .lst [.tup [.int 3, .int 1], .tup [.int 1, .int 2], .tup [.int 0, .int 1], .tup [.int 5, .int 7]]] h2 = .ok (ratP y) (h2.set n o3) := z3
      have z2 : newOf "Net" m_Net_u_init_u [.str N.textW] h1 = .ok (.obj h1.length) h2 := z2
      simp [tx, z2, z3]
    refine (sq_nx (t' := [some (.obj n), some (.obj k), some (.obj h1.length), some (ratP y), some (rowP u1), some (rowP u2), none, none, none, none]) (h' := h2.set n o5) (by simp [z4, z5])).trans ?_
    refine (sq_nx (t' := [some (.obj n), some (.obj k), some (.obj h1.length), some (ratP y), some (rowP u1), some (rowP u2), some (rowP (rowPlus u1 u2)), some (rowP (rowTimes u1 y)), none, none]) (h' := h2.set n o5) (by simp [rp, rt])).trans ?_
    refine (sq_nx ((sfor_ok (S := ⟨[u1, u2, rowPlus u1 u2, rowTimes u1 y, List.replicate N.cords.length ((0, 1) : Fr)].map rowP, []⟩) (h1 := h2.set n o5) ?_).trans z6)).trans ?_
    · simp [own_cords D5, ll, mr]
    · rfl
  have hl2 : h1.length ≤ h2.length := by
    refine Nat.le_of_not_lt fun q => ?_
    have z := K2 h2.length q
    rw [List.getElem?_eq_none (Nat.le_refl _), List.getElem?_eq_getElem q] at z
    cases z
  refine ⟨trim h (.bl true) (h2.set n o5), ?_, trim_le (by rw [List.length_set]; omega), fun i il ni => ?_⟩
  · show mkFn _ b__law_right _ h = _
    unfold mkFn
    rw [show ([P.obj n].map some ++ List.replicate (N__law_right.length - [P.obj n].length) none) = [some (.obj n), none, none, none, none, none, none, none, none, none] from rfl, bd]
  · rw [trim_get il, set_off (Ne.symm ni), K2 i (by omega), K1 i il ni]
theorem law_cells (ns : List Int) (h : AH) (l : ns.length ≤ 63) : ∃ m : Nat, m ≤ 2 ∧ m__law_cells [.scr (ns.map P.int), .int 2] h = .ok (.lst ((List.range m).map fun i => .int ((i : Nat) : Int))) h := by
  refine ⟨max 1 (min 2 ns.length), by omega, ?_⟩
  refine fn_rt0 ?_
  unfold b__law_cells
  have mi : fMin [.int 2, .int (ns.length : Nat)] h = .ok (.int ((min 2 ns.length : Nat) : Int)) h := by
    show Out.ok (P.int (if (ns.length : Int) < 2 then (ns.length : Int) else 2)) h = _
    congr 2
    split <;> omega
  have mx : fMax [.int 1, .int ((min 2 ns.length : Nat) : Int)] h = .ok (.int ((max 1 (min 2 ns.length) : Nat) : Int)) h := by
    show Out.ok (P.int (if ((min 2 ns.length : Nat) : Int) > 1 then ((min 2 ns.length : Nat) : Int) else 1)) h = _
    congr 2
    split <;> omega
  have lr : eLR false (eCB fMax (lC (eC (.int 1)) (lC (eCB fMin (lC (eV 1) (lC (eCB fLen (lC (eV 0) lN)) lN))) lN))) [some (.scr (ns.map P.int)), some (.int 2)] h = .ok (.lst ((List.range (max 1 (min 2 ns.length))).map fun i => .int ((i : Nat) : Int))) h := by
    have a : eCB fMax (lC (eC (.int 1)) (lC (eCB fMin (lC (eV 1) (lC (eCB fLen (lC (eV 0) lN)) lN))) lN)) [some (.scr (ns.map P.int)), some (.int 2)] h = .ok (.int ((max 1 (min 2 ns.length) : Nat) : Int)) h := by
      rw [eCB_at, lC_at, eC_at, Out.bind_ok, lC_at, eCB_at, lC_at, eV_some (rfl : [some (P.scr (ns.map P.int)), some (.int 2)][1]? = _), Out.bind_ok, lC_at, eCB_at, lC_at, eV_some (rfl : [some (P.scr (ns.map P.int)), some (.int 2)][0]? = _), Out.bind_ok, lN_at, Out.bind_ok, Out.bind_ok, f_len_scr, List.length_map, Out.bind_ok, lN_at, Out.bind_ok, Out.bind_ok, Out.bind_ok, mi, Out.bind_ok, lN_at, Out.bind_ok, Out.bind_ok, Out.bind_ok]
      exact mx
    show (eCB fMax _ _ h).bind _ = _
    rw [a, Out.bind_ok]
    dsimp only
    rw [if_pos ⟨by omega, by omega⟩, mkL_false, rg_map]
  show sR _ [some (.scr (ns.map P.int)), some (.int 2)] h = _
  rw [sR_at, lr]
  rfl
theorem law_is (ns : List Int) (l : ns.length ≤ 63) : LawIs m_law ns := by
  obtain ⟨m, m2, e⟩ := law_cells ns [] l
  have lc := lc_run (S := ⟨(List.range m).map fun i => .int ((i : Nat) : Int), []⟩) (h := []) (g := gN 1) (c := tY) (e := eCall 1 m__law_right (lC (eCall 2 m__law_pot (lC (eV 0) (lC (eV 1) lN))) lN)) (t := [some (.scr (ns.map P.int)), none]) (fun i : Nat => .int ((i : Nat) : Int)) (fun _ => some (.bl true)) (fun acc => (still_none _ _ _).mpr trivial) (ys := List.range m) (acc := []) (fun i hi acc => by
    have il := List.mem_range.mp hi
    obtain ⟨o, cu, z⟩ := cup_pot ns i (by omega) ([] ++ [.lst acc])
    have at_ : (([] ++ [.lst acc]) ++ [o])[1]? = some o := rfl
    obtain ⟨h', z2, l2, K⟩ := law_right at_ cu
    have k0 : h'[0]? = some (.lst acc) := K 0 (by simp) (by decide)
    obtain ⟨j, ej⟩ : ∃ j, h' = .lst acc :: j := by
      cases h' with
      | nil => cases k0
      | cons a j =>
        have : a = .lst acc := Option.some.inj k0
        exact ⟨j, by rw [this]⟩
    refine ⟨[some (.scr (ns.map P.int)), some (.int (i : Nat))], rfl, [], j, by rw [List.append_nil]; rfl, ?_, rfl⟩
    rw [List.append_nil]
    rw [ej] at z2
    exact (eCall1_ok ((eCall2_ok rfl rfl).trans z)).trans z2) (by simp; omega)
  have e3 := f_all ((List.range m).map fun _ => true) []
  rw [List.map_map] at e3
  have a1 : ((List.range m).map fun _ => true).all id = true := by simp
  rw [a1] at e3
  simp only [List.nil_append, List.filterMap_eq_map'] at lc
  refine ⟨[], ?_⟩
  refine fn_rt0 ?_
  unfold b_law
  show sR _ [some (.scr (ns.map P.int)), none] [] = _
  rw [sR_at, eCB_at, lC_at, eLc_at, iSeq_at, (eCall2_ok rfl rfl).trans e, Out.bind_ok, src_lst, Out.bind_ok, show wipeL [some (P.scr (ns.map P.int)), none] [1] = [some (.scr (ns.map P.int)), none] from rfl]
  dsimp only
  rw [lc, Out.bind_ok, lN_at, Out.bind_ok, Out.bind_ok]
  exact congrArg (fun o : Out P => o.toS _ fun p h1 => OutS.rt p h1) e3
end
end K14

theorem PySem.Challenge.cw_cordsatrest_k14_whole_what_pulls_leave_o_holds : PySem.Challenge.rw_cordsatrest_k14_whole_what_pulls_leave_o.Holds := by
  exact K14w.closes fun ns l _ => K14.law_is ns l
