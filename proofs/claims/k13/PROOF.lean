import PyProof.Rows.All
import Wide.All
import OpenK.AllK
import Wide.FinOn
import HandS.ForMost
import HandS.ForExc
import HandS.CallSlots
import HandS.SlotsOwn
import HandS.HeadHook2
import HandS.NoneIn
import HandS.Style
import HandS.Wide
import HandS.TupAny
import HandS.Conv
import HandS.Star
import HandS.Strs
import HandS.Text
import HandS.Iter
import HandS.Zip
import HandS.Comp
import KE.GoesEnum
import KE.GoesMore
import KE.KStateDown
import HandS.Head0
import HandS.Head1
import HandS.Head2
import HandS.HeadEnd
import HandS.HeadHook1
import HandS.EndBits
import HandS.Ends
import HandS.WordsDict
import PySem.Challenge.RW_cordsatrest_k13_a_story_by_hand_and_by_n
import HandS.Deep
import HandS.Flow
import HandS.TupMul
import HandS.IsInst
import HandS.RaiseMore
import KE.KDictSum
import KE.KEqDict
import PyProof.ReprReads
import PyProof.ReprRoads
import PyProof.CallFns
import OpenK.KOps
import Lean
set_option Elab.async false
set_option linter.all false
set_option maxRecDepth 100000
set_option maxHeartbeats 0
/-! AM1: the abstract machine: values, heap, relations, results. -/
namespace AM
open PySem PySem.Spec PyProof.Rows L2

/-- values: tuples and lists that nobody changes by what they hold; obj: the n-th object of the abstract heap; scr: the script -/
inductive P where
  | non | bl (b : Bool) | int (i : Int) | str (x : Str) | tup (xs : List P) | lst (xs : List P) | obj (n : Nat) | cls (x : Str) | scr (xs : List P)

/-- objects of the abstract heap -/
inductive O where
  | lst (xs : List P) | dct (kvs : List (Key × P)) | ins (C : Str) (fs : List (Option P))

abbrev AH := List O
abbrev Loc := List (Option P)

/-- a tuple that stands -/
def TupAt (K : PySem.W.Frag) (as : List Addr) (H : Hp) (a : Addr) (vs : List V) : Prop :=
  (a ∉ as ∧ Rd H a (.tup vs)) ∨ (∃ (o : Obj) (its : Array Value) (n : Nat), K.lookup a = some o ∧ o.cls = .type "tuple" ∧ o.data = .seq its n ∧ its.size ≤ sizeLine ∧ Vals vs its.toList)
theorem TupAt.sq {K : PySem.W.Frag} {as : List Addr} {H : Hp} {a : Addr} {vs : List V} (h : TupAt K as H a vs) : SqT K H a vs := by
  rcases h with ⟨_, h⟩ | h
  · exact .inl h
  · exact .inr h

mutual
def Rep (K : PySem.W.Frag) (as : List Addr) (H : Hp) : P → V → Prop
  | .non, v => v = .non
  | .bl b, v => v = .bl b
  | .int i, v => v = .int i
  | .str x, v => v = .str x
  | .tup xs, v => ∃ a vs, v = .ref a ∧ TupAt K as H a vs ∧ Reps K as H xs vs
  | .lst xs, v => ∃ a vs, v = .ref a ∧ a ∉ as ∧ H a = some (.lst vs) ∧ Reps K as H xs vs
  | .obj n, v => ∃ a, v = .ref a ∧ as[n]? = some a
  | .cls x, v => v = .ref (He.ga K x)
  | .scr xs, v => ∃ a vs o, v = .ref a ∧ a ∉ as ∧ H a = some (.frz o (.lst vs)) ∧ Reps K as H xs vs
def Reps (K : PySem.W.Frag) (as : List Addr) (H : Hp) : List P → List V → Prop
  | [], vs => vs = []
  | x :: xs, vs => ∃ v r, vs = v :: r ∧ Rep K as H x v ∧ Reps K as H xs r
end

def RepO (K : PySem.W.Frag) (as : List Addr) (H : Hp) : Option P → Option V → Prop
  | some p, o => ∃ v, o = some v ∧ Rep K as H p v
  | none, _ => True
/-- slots: what is told stands -/
def RepS (K : PySem.W.Frag) (as : List Addr) (H : Hp) (t : Loc) (s : L2.St) : Prop :=
  t.length = s.length ∧ ∀ (i : Nat) (p : P), t[i]? = some (some p) → ∃ v, s[i]? = some (some v) ∧ Rep K as H p v

def RepH (K : PySem.W.Frag) (as : List Addr) (H : Hp) : O → Addr → Prop
  | .lst xs, a => ∃ vs, H a = some (.lst vs) ∧ Reps K as H xs vs
  | .dct kvs, a => ∃ ws : List (Key × V), H a = some (.dK ws) ∧ ws.map (·.1) = kvs.map (·.1) ∧ Reps K as H (kvs.map (·.2)) (ws.map (·.2))
  | .ins C fs, a => ∃ dx vs, SlX.Slt H a (He.ga K C) dx vs ∧ ∀ (i : Nat) (p : P), fs[i]? = some (some p) → ∃ v, vs[i]? = some (some v) ∧ Rep K as H p v

structure RelH (K : PySem.W.Frag) (as : List Addr) (h : AH) (H : Hp) : Prop where
  len : as.length = h.length
  nd : as.Nodup
  at_ : ∀ (n : Nat) (o : O), h[n]? = some o → ∃ a, as[n]? = some a ∧ RepH K as H o a

structure Ext (as : List Addr) (H : Hp) (as' : List Addr) (H' : Hp) : Prop where
  pre : ∃ bs, as' = as ++ bs
  keep : ∀ b o, H b = some o → b ∉ as → (∀ u, o ≠ .own u) → H' b = some o ∧ b ∉ as'
theorem Ext.refl (as : List Addr) (H : Hp) : Ext as H as H := ⟨⟨[], by simp⟩, fun _ _ h n _ => ⟨h, n⟩⟩
theorem Ext.trans {a b c : List Addr} {H H1 H2 : Hp} (x : Ext a H b H1) (y : Ext b H1 c H2) : Ext a H c H2 := by
  refine ⟨?_, fun q o h n m => ?_⟩
  · obtain ⟨u, rfl⟩ := x.pre
    obtain ⟨v, rfl⟩ := y.pre
    exact ⟨u ++ v, by simp⟩
  · obtain ⟨h1, n1⟩ := x.keep q o h n m
    exact y.keep q o h1 n1 m
theorem Ext.get {as as' : List Addr} {H H' : Hp} (x : Ext as H as' H') {n : Nat} {a : Addr} (h : as[n]? = some a) : as'[n]? = some a := by
  obtain ⟨u, rfl⟩ := x.pre
  rw [List.getElem?_append_left (List.getElem?_eq_some_iff.mp h).1]
  exact h
theorem Ext.rd {as as' : List Addr} {H H' : Hp} (x : Ext as H as' H') {a : Addr} {u : HO} (n : a ∉ as) (m : ∀ z, u ≠ .own z) (h : Rd H a u) : Rd H' a u ∧ a ∉ as' := by
  rcases h with h | ⟨o, h⟩
  · obtain ⟨h1, h2⟩ := x.keep a _ h n m
    exact ⟨.inl h1, h2⟩
  · obtain ⟨h1, h2⟩ := x.keep a _ h n (fun _ z => by cases z)
    exact ⟨.inr ⟨o, h1⟩, h2⟩
theorem Ext.tup {K : PySem.W.Frag} {as as' : List Addr} {H H' : Hp} (x : Ext as H as' H') {a : Addr} {vs : List V} (h : TupAt K as H a vs) : TupAt K as' H' a vs := by
  rcases h with ⟨n, h⟩ | h
  · obtain ⟨h1, h2⟩ := x.rd n (fun _ z => by cases z) h
    exact .inl ⟨h2, h1⟩
  · exact .inr h
mutual
theorem Rep.mono {K : PySem.W.Frag} {as as' : List Addr} {H H' : Hp} (x : Ext as H as' H') : ∀ {p : P} {v : V}, Rep K as H p v → Rep K as' H' p v
  | .non, _, h => h
  | .bl _, _, h => h
  | .int _, _, h => h
  | .str _, _, h => h
  | .tup xs, _, h => by
    unfold Rep at h ⊢
    obtain ⟨a, vs, e, t, r⟩ := h
    exact ⟨a, vs, e, x.tup t, Reps.mono x r⟩
  | .lst xs, _, h => by
    unfold Rep at h ⊢
    obtain ⟨a, vs, e, n, t, r⟩ := h
    obtain ⟨h1, h2⟩ := x.keep a _ t n (fun _ z => by cases z)
    exact ⟨a, vs, e, h2, h1, Reps.mono x r⟩
  | .obj n, _, h => by
    unfold Rep at h ⊢
    obtain ⟨a, e, t⟩ := h
    exact ⟨a, e, x.get t⟩
  | .cls _, _, h => h
  | .scr xs, _, h => by
    unfold Rep at h ⊢
    obtain ⟨a, vs, o, e, n, t, r⟩ := h
    obtain ⟨h1, h2⟩ := x.keep a _ t n (fun _ z => by cases z)
    exact ⟨a, vs, o, e, h2, h1, Reps.mono x r⟩
theorem Reps.mono {K : PySem.W.Frag} {as as' : List Addr} {H H' : Hp} (x : Ext as H as' H') : ∀ {p : List P} {v : List V}, Reps K as H p v → Reps K as' H' p v
  | [], _, h => h
  | p :: ps, _, h => by
    unfold Reps at h ⊢
    obtain ⟨v, r, e, h1, h2⟩ := h
    exact ⟨v, r, e, Rep.mono x h1, Reps.mono x h2⟩
end
theorem RepS.mono {K : PySem.W.Frag} {as as' : List Addr} {H H' : Hp} (x : Ext as H as' H') {t : Loc} {s : L2.St} (h : RepS K as H t s) : RepS K as' H' t s :=
  ⟨h.1, fun i p e => let ⟨v, h1, h2⟩ := h.2 i p e; ⟨v, h1, h2.mono x⟩⟩

/-! ### lists -/
theorem reps_nil {K : PySem.W.Frag} {as : List Addr} {H : Hp} : Reps K as H [] [] := by unfold Reps; rfl
theorem reps_cons {K : PySem.W.Frag} {as : List Addr} {H : Hp} {p : P} {ps : List P} {v : V} {vs : List V} (h : Rep K as H p v) (t : Reps K as H ps vs) : Reps K as H (p :: ps) (v :: vs) := by
  unfold Reps
  exact ⟨v, vs, rfl, h, t⟩
theorem reps_inv {K : PySem.W.Frag} {as : List Addr} {H : Hp} {p : P} {ps : List P} {vs : List V} (h : Reps K as H (p :: ps) vs) : ∃ v r, vs = v :: r ∧ Rep K as H p v ∧ Reps K as H ps r := by
  unfold Reps at h
  exact h
theorem reps_inv0 {K : PySem.W.Frag} {as : List Addr} {H : Hp} {vs : List V} (h : Reps K as H [] vs) : vs = [] := by
  unfold Reps at h
  exact h
theorem Reps.len {K : PySem.W.Frag} {as : List Addr} {H : Hp} : ∀ {ps : List P} {vs : List V}, Reps K as H ps vs → ps.length = vs.length
  | [], _, h => by rw [reps_inv0 h]; rfl
  | _ :: _, _, h => by
    obtain ⟨v, r, rfl, _, t⟩ := reps_inv h
    simp [Reps.len t]
theorem Reps.app {K : PySem.W.Frag} {as : List Addr} {H : Hp} : ∀ {ps : List P} {vs : List V} {qs : List P} {ws : List V}, Reps K as H ps vs → Reps K as H qs ws → Reps K as H (ps ++ qs) (vs ++ ws)
  | [], _, _, _, h, t => by rw [reps_inv0 h]; exact t
  | _ :: _, _, _, _, h, t => by
    obtain ⟨v, r, rfl, h1, h2⟩ := reps_inv h
    exact reps_cons h1 (Reps.app h2 t)
theorem Reps.get {K : PySem.W.Frag} {as : List Addr} {H : Hp} : ∀ {ps : List P} {vs : List V} {i : Nat} {p : P}, Reps K as H ps vs → ps[i]? = some p → ∃ v, vs[i]? = some v ∧ Rep K as H p v
  | [], _, _, _, _, e => by simp at e
  | _ :: _, _, 0, _, h, e => by
    obtain ⟨v, r, rfl, h1, h2⟩ := reps_inv h
    simp at e
    subst e
    exact ⟨v, rfl, h1⟩
  | _ :: _, _, i + 1, _, h, e => by
    obtain ⟨v, r, rfl, h1, h2⟩ := reps_inv h
    obtain ⟨u, e1, e2⟩ := Reps.get (i := i) h2 (by simpa using e)
    exact ⟨u, by simpa using e1, e2⟩
theorem Reps.set {K : PySem.W.Frag} {as : List Addr} {H : Hp} {p : P} {v : V} (hp : Rep K as H p v) : ∀ {ps : List P} {vs : List V} (i : Nat), Reps K as H ps vs → Reps K as H (ps.set i p) (vs.set i v)
  | [], _, _, h => by rw [reps_inv0 h]; exact reps_nil
  | _ :: _, _, 0, h => by
    obtain ⟨u, r, rfl, h1, h2⟩ := reps_inv h
    exact reps_cons hp h2
  | _ :: _, _, i + 1, h => by
    obtain ⟨u, r, rfl, h1, h2⟩ := reps_inv h
    exact reps_cons h1 (Reps.set hp i h2)
theorem Reps.take {K : PySem.W.Frag} {as : List Addr} {H : Hp} : ∀ {ps : List P} {vs : List V} (n : Nat), Reps K as H ps vs → Reps K as H (ps.take n) (vs.take n)
  | _, _, 0, _ => by simp; exact reps_nil
  | [], _, _ + 1, h => by rw [reps_inv0 h]; exact reps_nil
  | _ :: _, _, n + 1, h => by
    obtain ⟨u, r, rfl, h1, h2⟩ := reps_inv h
    exact reps_cons h1 (Reps.take n h2)
theorem Reps.drop {K : PySem.W.Frag} {as : List Addr} {H : Hp} : ∀ {ps : List P} {vs : List V} (n : Nat), Reps K as H ps vs → Reps K as H (ps.drop n) (vs.drop n)
  | _, _, 0, h => h
  | [], _, _ + 1, h => by rw [reps_inv0 h]; exact reps_nil
  | _ :: _, _, n + 1, h => by
    obtain ⟨u, r, rfl, h1, h2⟩ := reps_inv h
    exact Reps.drop n h2
theorem Reps.reverse {K : PySem.W.Frag} {as : List Addr} {H : Hp} : ∀ {ps : List P} {vs : List V}, Reps K as H ps vs → Reps K as H ps.reverse vs.reverse
  | [], _, h => by rw [reps_inv0 h]; exact reps_nil
  | _ :: _, _, h => by
    obtain ⟨u, r, rfl, h1, h2⟩ := reps_inv h
    rw [List.reverse_cons, List.reverse_cons]
    exact (Reps.reverse h2).app (reps_cons h1 reps_nil)
theorem Reps.erase {K : PySem.W.Frag} {as : List Addr} {H : Hp} : ∀ {ps : List P} {vs : List V} (i : Nat), Reps K as H ps vs → Reps K as H (ps.eraseIdx i) (vs.eraseIdx i)
  | [], _, _, h => by rw [reps_inv0 h]; exact reps_nil
  | _ :: _, _, 0, h => by
    obtain ⟨u, r, rfl, h1, h2⟩ := reps_inv h
    exact h2
  | _ :: _, _, i + 1, h => by
    obtain ⟨u, r, rfl, h1, h2⟩ := reps_inv h
    exact reps_cons h1 (Reps.erase i h2)
theorem Reps.rep {K : PySem.W.Frag} {as : List Addr} {H : Hp} {ps : List P} {vs : List V} (h : Reps K as H ps vs) : ∀ k : Nat, Reps K as H (List.replicate k ps).flatten (List.replicate k vs).flatten
  | 0 => reps_nil
  | k + 1 => by
    simp only [List.replicate_succ, List.flatten_cons]
    exact h.app (Reps.rep h k)
theorem reps_split {K : PySem.W.Frag} {as : List Addr} {H : Hp} : ∀ {ps qs : List P} {vs : List V}, Reps K as H (ps ++ qs) vs → ∃ v1 v2, vs = v1 ++ v2 ∧ Reps K as H ps v1 ∧ Reps K as H qs v2
  | [], _, vs, h => ⟨[], vs, rfl, reps_nil, h⟩
  | _ :: _, _, _, h => by
    obtain ⟨u, r, rfl, h1, h2⟩ := reps_inv h
    obtain ⟨v1, v2, rfl, a, b⟩ := reps_split h2
    exact ⟨u :: v1, v2, rfl, reps_cons h1 a, b⟩
theorem reps_of_get {K : PySem.W.Frag} {as : List Addr} {H : Hp} : ∀ {ps : List P} {vs : List V}, ps.length = vs.length → (∀ (i : Nat) p v, ps[i]? = some p → vs[i]? = some v → Rep K as H p v) → Reps K as H ps vs
  | [], [], _, _ => reps_nil
  | [], _ :: _, h, _ => by simp at h
  | _ :: _, [], h, _ => by simp at h
  | p :: ps, v :: vs, h, f => reps_cons (f 0 p v rfl rfl) (reps_of_get (by simpa using h) fun i p v a b => f (i + 1) p v (by simpa using a) (by simpa using b))

/-! ### the heap -/
theorem RelH.live {K : PySem.W.Frag} {as : List Addr} {h : AH} {H : Hp} (r : RelH K as h H) {a : Addr} (m : a ∈ as) : H a ≠ none ∧ (∀ xs, H a ≠ some (.tup xs)) ∧ (∀ fs, H a ≠ some (.xd fs)) ∧ (∀ u, H a ≠ some (.own u)) := by
  obtain ⟨n, hn, e⟩ := List.getElem_of_mem m
  have hl : n < h.length := by rw [← r.len]; exact hn
  obtain ⟨b, e2, q⟩ := r.at_ n h[n] (by simp [hl])
  have eb : b = a := by
    rw [List.getElem?_eq_getElem hn, e] at e2
    exact (Option.some.inj e2).symm
  subst eb
  cases o : h[n] with
  | lst xs =>
    rw [o] at q
    obtain ⟨vs, q1, _⟩ := q
    rw [q1]
    exact ⟨by simp, by simp, by simp, by simp⟩
  | dct xs =>
    rw [o] at q
    obtain ⟨vs, q1, _⟩ := q
    rw [q1]
    exact ⟨by simp, by simp, by simp, by simp⟩
  | ins C fs =>
    rw [o] at q
    obtain ⟨dx, vs, q1, _⟩ := q
    rcases q1 with ⟨z, _⟩ | ⟨z, _⟩
    · rw [z]
      exact ⟨by simp, by simp, by simp, by simp⟩
    · rw [z]
      unfold SlX.SlO
      exact ⟨by simp, by simp, by simp, by simp⟩
theorem RelH.new {K : PySem.W.Frag} {as : List Addr} {h : AH} {H : Hp} (r : RelH K as h H) {p : Addr} (e : H p = none) : p ∉ as := fun m => (r.live m).1 e
/-- what is laid beside -/
theorem Ext.laid {K : PySem.W.Frag} {as : List Addr} {h : AH} {H : Hp} (r : RelH K as h H) {p : Addr} {o : HO} (e : H p = none) : Ext as H as (upd H p o) :=
  ⟨⟨[], by simp⟩, fun b u q n _ => ⟨by rw [upd_ne (fun z => by rw [z, e] at q; cases q)]; exact q, n⟩⟩
theorem RepH.mono {K : PySem.W.Frag} {as as' : List Addr} {H H' : Hp} (x : Ext as H as' H') {o : O} {a : Addr} (k : H' a = H a) (hd : ∀ d fs, H d = some (.xd fs) → d ∉ as) (h : RepH K as H o a) : RepH K as' H' o a := by
  cases o with
  | lst xs =>
    obtain ⟨vs, q1, q2⟩ := h
    exact ⟨vs, k.trans q1, q2.mono x⟩
  | dct xs =>
    obtain ⟨vs, q1, q2, q3⟩ := h
    exact ⟨vs, k.trans q1, q2, q3.mono x⟩
  | ins C fs =>
    obtain ⟨dx, vs, q, q4⟩ := h
    refine ⟨dx, vs, ?_, fun i p e => let ⟨v, e1, e2⟩ := q4 i p e; ⟨v, e1, e2.mono x⟩⟩
    rcases q with ⟨z1, z2⟩ | ⟨z1, z2⟩
    · exact .inl ⟨k.trans z1, z2⟩
    · exact .inr ⟨k.trans z1, (x.keep dx _ z2 (hd dx _ z2) (fun _ z => by cases z)).1⟩
theorem RelH.xds {K : PySem.W.Frag} {as : List Addr} {h : AH} {H : Hp} (r : RelH K as h H) : ∀ d fs, H d = some (.xd fs) → d ∉ as := fun d u e m => (r.live m).2.2.1 u e
theorem RelH.laid {K : PySem.W.Frag} {as : List Addr} {h : AH} {H : Hp} (r : RelH K as h H) {p : Addr} {o : HO} (e : H p = none) : RelH K as h (upd H p o) :=
  ⟨r.len, r.nd, fun n u q => by
    obtain ⟨a, q1, q2⟩ := r.at_ n u q
    refine ⟨a, q1, q2.mono (Ext.laid r e) ?_ r.xds⟩
    rw [upd_ne]
    intro z
    exact r.new e (z ▸ List.mem_of_getElem? q1)⟩
/-- a new object, tracked -/
theorem Ext.push {K : PySem.W.Frag} {as : List Addr} {h : AH} {H : Hp} (r : RelH K as h H) {p : Addr} {o : HO} (e : H p = none) : Ext as H (as ++ [p]) (upd H p o) :=
  ⟨⟨[p], rfl⟩, fun b u q n _ => ⟨by rw [upd_ne (fun z => by rw [z, e] at q; cases q)]; exact q, fun m => by
    rcases List.mem_append.mp m with m | m
    · exact n m
    · rw [List.mem_singleton.mp m, e] at q; cases q⟩⟩
theorem RelH.push {K : PySem.W.Frag} {as : List Addr} {h : AH} {H : Hp} (r : RelH K as h H) {p : Addr} {o : HO} {u : O} (e : H p = none) (q : RepH K (as ++ [p]) (upd H p o) u p) : RelH K (as ++ [p]) (h ++ [u]) (upd H p o) := by
  refine ⟨by simp [r.len], ?_, fun n v z => ?_⟩
  · rw [List.nodup_append]
    refine ⟨r.nd, by simp, fun a ha b hb => ?_⟩
    rw [List.mem_singleton.mp hb]
    exact fun z => r.new e (z ▸ ha)
  · by_cases hn : n < h.length
    · rw [List.getElem?_append_left hn] at z
      obtain ⟨a, q1, q2⟩ := r.at_ n v z
      refine ⟨a, ?_, q2.mono (Ext.push r e) ?_ r.xds⟩
      · rw [List.getElem?_append_left (by rw [r.len]; exact hn)]
        exact q1
      · rw [upd_ne]
        intro z
        exact r.new e (z ▸ List.mem_of_getElem? q1)
    · rw [List.getElem?_append_right (by omega)] at z
      have hz : n - h.length = 0 := by
        cases k : n - h.length with
        | zero => rfl
        | succ m => rw [k] at z; simp at z
      rw [hz] at z
      simp at z
      subst z
      refine ⟨p, ?_, q⟩
      rw [List.getElem?_append_right (by rw [r.len]; omega), r.len, hz]
      rfl
/-- a tracked object is changed -/
theorem Ext.put {K : PySem.W.Frag} {as : List Addr} {h : AH} {H : Hp} (r : RelH K as h H) {n : Nat} {p : Addr} {o : HO} (e : as[n]? = some p) : Ext as H as (upd H p o) :=
  ⟨⟨[], by simp⟩, fun b u q m _ => ⟨by
    have z : b ≠ p := fun z => by
      subst z
      exact m (List.mem_of_getElem? e)
    rw [upd_ne z]; exact q, m⟩⟩
theorem RelH.put {K : PySem.W.Frag} {as : List Addr} {h : AH} {H : Hp} (r : RelH K as h H) {n : Nat} {p : Addr} {o : HO} {u : O} (e : as[n]? = some p) (q : RepH K as (upd H p o) u p) : RelH K as (h.set n u) (upd H p o) := by
  refine ⟨by simp [r.len], r.nd, fun m v z => ?_⟩
  by_cases hn : n = m
  · subst hn
    by_cases hl : n < h.length
    · rw [List.getElem?_set_self hl] at z
      cases z
      exact ⟨p, e, q⟩
    · rw [List.getElem?_eq_none (by simpa using hl)] at z
      cases z
  · rw [List.getElem?_set_ne hn] at z
    obtain ⟨a, q1, q2⟩ := r.at_ m v z
    refine ⟨a, q1, q2.mono (Ext.put r e) ?_ r.xds⟩
    rw [upd_ne]
    intro z
    subst z
    exact hn ((List.getElem?_inj (List.getElem?_eq_some_iff.mp e).1 r.nd).mp (e.trans q1.symm))
theorem RelH.obj {K : PySem.W.Frag} {as : List Addr} {h : AH} {H : Hp} (r : RelH K as h H) {n : Nat} {o : O} {a : Addr} (e : h[n]? = some o) (q : as[n]? = some a) : RepH K as H o a := by
  obtain ⟨b, q1, q2⟩ := r.at_ n o e
  rw [q] at q1
  cases q1
  exact q2

/-! ### results -/
inductive Out (α : Type) where
  | ok (a : α) (h : AH) | exc (c : Str) (p : P) (h : AH) | bad
def Out.bind {α β : Type} (o : Out α) (f : α → AH → Out β) : Out β := match o with
  | .ok a h => f a h
  | .exc c p h => .exc c p h
  | .bad => .bad
inductive OutS where
  | nx (t : Loc) (h : AH) | rt (p : P) (h : AH) | bk (t : Loc) (h : AH) | ct (t : Loc) (h : AH) | exc (c : Str) (p : P) (t : Loc) (h : AH) | bad
def OutS.seq (o : OutS) (f : Loc → AH → OutS) : OutS := match o with
  | .nx t h => f t h
  | o => o
/-- an expression's result, then a statement's -/
def Out.toS {α : Type} (o : Out α) (t : Loc) (f : α → AH → OutS) : OutS := match o with
  | .ok a h => f a h
  | .exc c p h => .exc c p t h
  | .bad => .bad

/-- the wish of an exception, at slots and heap -/
def ExcP (K : PySem.W.Frag) (W : WX) (s : L2.St) (as : List Addr) (H : Hp) (c : Str) (p : P) (h : AH) : Prop :=
  ∀ as' H' d w, Ext as H as' H' → RelH K as' h H' → H' d = some (.xd [(("value" : Str), w)]) → Rep K as' H' p w → W (.ref (He.ga K c)) (some d) s H'
def Post {α β : Type} (R : List Addr → Hp → α → β → Prop) (K : PySem.W.Frag) (W : WX) (s : L2.St) (as : List Addr) (H : Hp) (o : Out α) (Q : β → Hp → Prop) : Prop := match o with
  | .ok a h => ∀ as' H' b, Ext as H as' H' → RelH K as' h H' → R as' H' a b → Q b H'
  | .exc c p h => ExcP K W s as H c p h
  | .bad => False
theorem ExcP.ext {K : PySem.W.Frag} {W : WX} {s : L2.St} {as as' : List Addr} {H H' : Hp} {c : Str} {p : P} {h : AH} (q : ExcP K W s as H c p h) (x : Ext as H as' H') : ExcP K W s as' H' c p h :=
  fun a2 H2 d w x2 r e1 e2 => q a2 H2 d w (x.trans x2) r e1 e2
theorem Post.ext {α β : Type} {R : List Addr → Hp → α → β → Prop} {K : PySem.W.Frag} {W : WX} {s : L2.St} {as as' : List Addr} {H H' : Hp} {o : Out α} {Q : β → Hp → Prop} (q : Post R K W s as H o Q) (x : Ext as H as' H') : Post R K W s as' H' o Q := by
  cases o with
  | ok a h => exact fun a2 H2 b x2 r e => q a2 H2 b (x.trans x2) r e
  | exc c p h => exact ExcP.ext q x
  | bad => exact q
theorem Post.mono {α β : Type} {R : List Addr → Hp → α → β → Prop} {K : PySem.W.Frag} {W : WX} {s : L2.St} {as : List Addr} {H : Hp} {o : Out α} {Q Q' : β → Hp → Prop} (q : Post R K W s as H o Q) (f : ∀ b H', Q b H' → Q' b H') : Post R K W s as H o Q' := by
  cases o with
  | ok a h => exact fun a2 H2 b x2 r e => f _ _ (q a2 H2 b x2 r e)
  | exc c p h => exact q
  | bad => exact q
theorem Post.bind {α β γ δ : Type} {R : List Addr → Hp → α → β → Prop} {R' : List Addr → Hp → γ → δ → Prop} {K : PySem.W.Frag} {W : WX} {s : L2.St} {as : List Addr} {H : Hp} {o : Out α} {f : α → AH → Out γ} {Q : δ → Hp → Prop}
    (q : Post R' K W s as H (o.bind f) Q) : Post R K W s as H o (fun b H1 => ∃ as1 h1 a, Ext as H as1 H1 ∧ RelH K as1 h1 H1 ∧ R as1 H1 a b ∧ Post R' K W s as1 H1 (f a h1) Q) := by
  cases o with
  | ok a h => exact fun a2 H2 b x2 r e => ⟨a2, h, a, x2, r, e, Post.ext (o := f a h) q x2⟩
  | exc c p h => exact q
  | bad => exact q
/-- at once -/
theorem Post.done {α β : Type} {R : List Addr → Hp → α → β → Prop} {K : PySem.W.Frag} {W : WX} {s : L2.St} {as as' : List Addr} {H H' : Hp} {a : α} {h : AH} {b : β} {Q : β → Hp → Prop} (q : Post R K W s as H (.ok a h) Q) (x : Ext as H as' H') (r : RelH K as' h H') (e : R as' H' a b) : Q b H' :=
  q as' H' b x r e

abbrev EM := Loc → AH → Out P
abbrev TM := Loc → AH → Out Bool
abbrev LM := Loc → AH → Out (List P)
abbrev SM := Loc → AH → OutS

def TG_ {α β : Type} (R : List Addr → Hp → α → β → Prop) (K : PySem.W.Frag) (W : WX) (m : Loc → AH → Out α) : L2.St → Hp → (β → Hp → Prop) → Prop := fun s H Q =>
  ∃ as h t, RelH K as h H ∧ RepS K as H t s ∧ Post R K W s as H (m t h) Q
abbrev TEm (K : PySem.W.Frag) (W : WX) (m : EM) : TE := TG_ (Rep K) K W m
abbrev TTm (K : PySem.W.Frag) (W : WX) (m : TM) : TT := TG_ (fun _ _ a b => a = b) K W m
abbrev TAm (K : PySem.W.Frag) (W : WX) (m : LM) : TA := TG_ (Reps K) K W m
def PostS (K : PySem.W.Frag) (W : WX) (as : List Addr) (H : Hp) (o : OutS) (D : Ends) : Prop := match o with
  | .nx t h => ∀ as' H' s', Ext as H as' H' → RelH K as' h H' → RepS K as' H' t s' → D.nx s' H'
  | .bk t h => ∀ as' H' s', Ext as H as' H' → RelH K as' h H' → RepS K as' H' t s' → D.bk s' H'
  | .ct t h => ∀ as' H' s', Ext as H as' H' → RelH K as' h H' → RepS K as' H' t s' → D.ct s' H'
  | .rt p h => ∀ as' H' v, Ext as H as' H' → RelH K as' h H' → Rep K as' H' p v → D.rt v H'
  | .exc c p t h => ∀ as' H' s' d w, Ext as H as' H' → RelH K as' h H' → RepS K as' H' t s' → H' d = some (.xd [(("value" : Str), w)]) → Rep K as' H' p w → W (.ref (He.ga K c)) (some d) s' H'
  | .bad => False
def TSm (K : PySem.W.Frag) (W : WX) (m : SM) : TS := fun D s H => ∃ as h t, RelH K as h H ∧ RepS K as H t s ∧ PostS K W as H (m t h) D
theorem PostS.ext {K : PySem.W.Frag} {W : WX} {as as' : List Addr} {H H' : Hp} {o : OutS} {D : Ends} (q : PostS K W as H o D) (x : Ext as H as' H') : PostS K W as' H' o D := by
  cases o with
  | nx t h => exact fun a2 H2 b x2 r e => q a2 H2 b (x.trans x2) r e
  | bk t h => exact fun a2 H2 b x2 r e => q a2 H2 b (x.trans x2) r e
  | ct t h => exact fun a2 H2 b x2 r e => q a2 H2 b (x.trans x2) r e
  | rt p h => exact fun a2 H2 b x2 r e => q a2 H2 b (x.trans x2) r e
  | exc c p t h => exact fun a2 H2 s d w x2 r e => q a2 H2 s d w (x.trans x2) r e
  | bad => exact q

/-! ### judgements -/
abbrev PEm (X : Cx) (W : WX) (e : Expr) (m : EM) : Prop := PE X e (TEm X.K W m)
abbrev PTm (X : Cx) (W : WX) (e : Expr) (m : TM) : Prop := PT X e (TTm X.K W m)
abbrev PWm (X : Cx) (W : WX) (e : Expr) (m : TM) : Prop := PW X e (TTm X.K W m)
abbrev PAm (X : Cx) (W : WX) (es : List Expr) (m : LM) : Prop := PA X es (TAm X.K W m)
abbrev PSm (X : Cx) (W : WX) (st : Stmt) (m : SM) : Prop := PS X st (TSm X.K W m)
abbrev PSsm (X : Cx) (W : WX) (st : List Stmt) (m : SM) : Prop := PSs X st (TSm X.K W m)
theorem PE_imp {X : Cx} {e : Expr} {t t' : TE} (h : PE X e t) (i : ∀ s H Q, t' s H Q → t s H Q) : PE X e t' := ⟨fun pins s σ H Q I q => h.run pins s σ H Q I (i _ _ _ q)⟩
theorem PT_imp {X : Cx} {e : Expr} {t t' : TT} (h : PT X e t) (i : ∀ s H Q, t' s H Q → t s H Q) : PT X e t' := ⟨fun pins s σ H Q I q => h.run pins s σ H Q I (i _ _ _ q)⟩
theorem PW_imp {X : Cx} {e : Expr} {t t' : TT} (h : PW X e t) (i : ∀ s H Q, t' s H Q → t s H Q) : PW X e t' := ⟨fun wh pins s σ H Q I q => h.run wh pins s σ H Q I (i _ _ _ q)⟩
theorem PA_imp {X : Cx} {e : List Expr} {t t' : TA} (h : PA X e t) (i : ∀ s H Q, t' s H Q → t s H Q) : PA X e t' := ⟨fun pos pins s σ H Q I q => h.run pos pins s σ H Q I (i _ _ _ q)⟩
theorem PS_imp {X : Cx} {e : Stmt} {t t' : TS} (h : PS X e t) (i : ∀ D s H, t' D s H → t D s H) : PS X e t' := ⟨fun pins s σ H Q I q => h.run pins s σ H Q I (i _ _ _ q)⟩
theorem PSs_imp {X : Cx} {e : List Stmt} {t t' : TS} (h : PSs X e t) (i : ∀ D s H, t' D s H → t D s H) : PSs X e t' := ⟨fun pins s σ H Q I q => h.run pins s σ H Q I (i _ _ _ q)⟩
end AM

/-! AM2: defs by the abstract machine: a promise that knows that no repr is running; calls of every form. -/
namespace AM
open PySem PySem.Spec PyProof.Rows L2

/-- a def's promise where no repr is running -/
structure FnG (Pr : Program) (w : World) (K : PySem.W.Frag) (mg : Str → Option Value) (base : Heap) (k : Nat) (f : Addr) (fd : FuncData) (ps : List Str) (sp : Sp) : Prop where
  len : ∀ vs H Q E, sp vs H Q E → vs.length = ps.length
  run : ∀ (A : Around) (outer : List Env) (s : Shared) (H : Hp) (args : Args) (us : List Value) (vs : List V) (Q : VK) (E : XK), Room k A → A.guards = some [] →
    Env0 Pr w K mg base A outer s H → BindsTo s fd args (ps.zip us) → Vals vs us → sp vs H Q E → codeAny (model Pr w) A (.call (.ref f) args) (CR (CX Pr w) outer Pr w H s Q E) s
theorem FnG.mono {Pr : Program} {w : World} {K : PySem.W.Frag} {mg : Str → Option Value} {base : Heap} {j k : Nat} {f : Addr} {fd : FuncData} {ps : List Str} {sp : Sp}
    (F : FnG Pr w K mg base j f fd ps sp) (h : j ≤ k) : FnG Pr w K mg base k f fd ps sp :=
  ⟨F.len, fun A outer s H args us vs Q E hr hg => F.run A outer s H args us vs Q E (hr.mono h) hg⟩

/-- what a def's body may lean on -/
structure Here (X : Cx) (k : Nat) : Prop where
  room : Room k X.A
  gd : X.A.guards = some []

theorem fnG_of {Pr : Program} {w : World} {K : PySem.W.Frag} {mg : Str → Option Value} {base : Heap} {k : Nat} {x qual : Str} {params : Arguments} {body : List Stmt} {scope : Scope} {f : Addr} {fd : FuncData}
    {N ps : List Str} {sp : Sp} (F : FunD K x qual params body scope [] [] f fd) (S : FnScope N ps scope) (len : ∀ vs H Q E, sp vs H Q E → vs.length = ps.length)
    (hb : ∀ (cdv : Value) (A : Around) (outer : List Env) (s : Shared) (H : Hp) (vs : List V) (Q : VK) (E : XK), Here (cxOf (CX Pr w) Pr w K mg base N qual scope f cdv A outer s H E) k → sp vs H Q E →
      ∃ t, PSs (cxOf (CX Pr w) Pr w K mg base N qual scope f cdv A outer s H E) body t ∧ t { nx := fun _ H' => Q .non H', rt := Q } (L2.start N vs) H) :
    FnG Pr w K mg base (k + 1) f fd ps sp := by
  obtain ⟨oc, od, dV, kV, doc, pm, an, cdv, ct, osl, rfl, lk, hcd, _, _⟩ := F.ex
  refine ⟨len, fun A outer s H args us vs Q E hr hg e0 bt r q => ?_⟩
  have inK : K.In s.heap := e0.mod.kin.keeps fun b o z => (e0.bs b o z).1
  have nl : s.heap.NoLimit := e0.mod.nolimit.keeps fun b o z => (e0.bs b o z).1
  have kinds : ∀ y ∈ ps.zip us, scope.names.lookup y.1 = some .local ∨
      (scope.names.lookup y.1 = some .cell ∧ ((cellsFrom (s.heap.objs.size + 1) scope.names []).lookup y.1).isSome = true) := by
    intro y hy
    rcases S.par y.1 (List.of_mem_zip (show (y.1, y.2) ∈ ps.zip us from hy)).1 with z | z
    · exact .inl z
    · exact .inr ⟨z, PySem.W.cellsFrom_some _ _ _ (.inl z)⟩
  refine codeAny_call_function hr.depth (inK _ _ lk) rfl S.co S.gen rfl (PySem.W.codeRec_of inK hcd) (bt _ _ _ _ ?_)
  refine wpAny_newFunctionEnv_cells S.kind kinds fun env he s1 x => ?_
  subst he
  refine ⟨nl.keeps x.toInCall.keep, codeAny_func ?_⟩
  obtain ⟨t, ht, hq⟩ := hb cdv A outer s H vs Q E ⟨hr.deeper _, hg⟩ q
  have I := inv_start (CX := CX Pr w) (w := w) (qual := qual) (f := f) (cd := cdv) (E := E) S hr.hd e0 (len _ _ _ _ q) r x
  refine wpAny_mono (ht.run [] s1 (L2.start N vs) H _ I hq) (fun fl s' z => ?_) fun _ _ z => z
  cases fl with
  | ret u =>
    obtain ⟨v, _, H', J, rv, qv⟩ := z
    exact ⟨v, H', J.os, J.bare, J.base, J.hok, rv, qv⟩
  | next =>
    obtain ⟨_, H', J, qv⟩ := z
    exact ⟨V.non, H', J.os, J.bare, J.base, J.hok, rfl, qv⟩
  | brk =>
    obtain ⟨_, _, _, no⟩ := z
    exact no.elim
  | cont =>
    obtain ⟨_, _, _, no⟩ := z
    exact no.elim

/-! ### what a def leaves behind -/
mutual
/-- no object from the n-th on -/
def clean (n : Nat) : P → Bool
  | .obj k => decide (k < n)
  | .tup xs => cleans n xs
  | .lst xs => cleans n xs
  | .scr xs => cleans n xs
  | _ => true
def cleans (n : Nat) : List P → Bool
  | [] => true
  | p :: ps => clean n p && cleans n ps
end
def cleanO (n : Nat) : O → Bool
  | .lst xs => cleans n xs
  | .dct kvs => cleans n (kvs.map (·.2))
  | .ins _ fs => fs.all fun
    | some p => clean n p
    | none => true
mutual
theorem rep_clean {K : PySem.W.Frag} {as : List Addr} {H : Hp} : ∀ {p : P} {v : V}, Rep K as H p v → clean as.length p = true
  | .non, _, _ => rfl
  | .bl _, _, _ => rfl
  | .int _, _, _ => rfl
  | .str _, _, _ => rfl
  | .cls _, _, _ => rfl
  | .tup xs, _, r => by
    unfold Rep at r
    obtain ⟨a, vs, _, _, q⟩ := r
    exact reps_clean q
  | .lst xs, _, r => by
    unfold Rep at r
    obtain ⟨a, vs, _, _, _, q⟩ := r
    exact reps_clean q
  | .scr xs, _, r => by
    unfold Rep at r
    obtain ⟨a, vs, o, _, _, _, q⟩ := r
    exact reps_clean q
  | .obj n, _, r => by
    unfold Rep at r
    obtain ⟨a, _, q⟩ := r
    exact decide_eq_true (List.getElem?_eq_some_iff.mp q).1
theorem reps_clean {K : PySem.W.Frag} {as : List Addr} {H : Hp} : ∀ {p : List P} {v : List V}, Reps K as H p v → cleans as.length p = true
  | [], _, _ => rfl
  | _ :: _, _, r => by
    obtain ⟨v, vs, _, r1, r2⟩ := reps_inv r
    show (clean _ _ && cleans _ _) = true
    rw [rep_clean r1, reps_clean r2]
    rfl
end
theorem repH_clean {K : PySem.W.Frag} {as : List Addr} {H : Hp} {o : O} {a : Addr} (r : RepH K as H o a) : cleanO as.length o = true := by
  cases o with
  | lst xs => obtain ⟨vs, _, q⟩ := r; exact reps_clean q
  | dct kvs => obtain ⟨ws, _, _, q⟩ := r; exact reps_clean q
  | ins C fs =>
    obtain ⟨dx, vs, _, q⟩ := r
    unfold cleanO
    rw [List.all_eq_true]
    intro x hx
    cases x with
    | none => rfl
    | some p =>
      obtain ⟨i, hi, e⟩ := List.getElem_of_mem hx
      obtain ⟨v, _, rv⟩ := q i p (by rw [List.getElem?_eq_getElem hi, e])
      exact rep_clean rv
mutual
theorem Rep.down {K : PySem.W.Frag} {as bs : List Addr} {H : Hp} : ∀ {p : P} {v : V}, Rep K (as ++ bs) H p v → clean as.length p = true → Rep K as H p v
  | .non, _, r, _ => r
  | .bl _, _, r, _ => r
  | .int _, _, r, _ => r
  | .str _, _, r, _ => r
  | .cls _, _, r, _ => r
  | .tup xs, _, r, c => by
    unfold Rep at r ⊢
    obtain ⟨a, vs, e, t, q⟩ := r
    refine ⟨a, vs, e, ?_, Reps.down q c⟩
    rcases t with ⟨n, t⟩ | t
    · exact .inl ⟨fun z => n (List.mem_append_left _ z), t⟩
    · exact .inr t
  | .lst xs, _, r, c => by
    unfold Rep at r ⊢
    obtain ⟨a, vs, e, n, t, q⟩ := r
    exact ⟨a, vs, e, fun z => n (List.mem_append_left _ z), t, Reps.down q c⟩
  | .scr xs, _, r, c => by
    unfold Rep at r ⊢
    obtain ⟨a, vs, o, e, n, t, q⟩ := r
    exact ⟨a, vs, o, e, fun z => n (List.mem_append_left _ z), t, Reps.down q c⟩
  | .obj n, _, r, c => by
    unfold Rep at r ⊢
    obtain ⟨a, e, q⟩ := r
    have l : n < as.length := of_decide_eq_true c
    rw [List.getElem?_append_left l] at q
    exact ⟨a, e, q⟩
theorem Reps.down {K : PySem.W.Frag} {as bs : List Addr} {H : Hp} : ∀ {p : List P} {v : List V}, Reps K (as ++ bs) H p v → cleans as.length p = true → Reps K as H p v
  | [], _, r, _ => by
    rw [reps_inv0 r]
    exact reps_nil
  | p :: ps, _, r, c => by
    obtain ⟨v, vs, rfl, r1, r2⟩ := reps_inv r
    have c : (clean as.length p && cleans as.length ps) = true := c
    rw [Bool.and_eq_true] at c
    exact reps_cons (Rep.down r1 c.1) (Reps.down r2 c.2)
end
theorem RepH.down {K : PySem.W.Frag} {as bs : List Addr} {H : Hp} {o : O} {a : Addr} (r : RepH K (as ++ bs) H o a) (c : cleanO as.length o = true) : RepH K as H o a := by
  cases o with
  | lst xs => obtain ⟨vs, q1, q⟩ := r; exact ⟨vs, q1, q.down c⟩
  | dct kvs => obtain ⟨ws, q1, q2, q⟩ := r; exact ⟨ws, q1, q2, q.down c⟩
  | ins C fs =>
    obtain ⟨dx, vs, q1, q⟩ := r
    refine ⟨dx, vs, q1, fun i p e => ?_⟩
    obtain ⟨v, e1, e2⟩ := q i p e
    unfold cleanO at c
    rw [List.all_eq_true] at c
    exact ⟨v, e1, e2.down (c (some p) (List.mem_of_getElem? e))⟩
/-- the first n objects stand by themselves: as they stood, or clean -/
def Shut (h0 h : AH) : Prop := ∀ (i : Nat) (o : O), i < h0.length → h[i]? = some o → h0[i]? = some o ∨ cleanO h0.length o = true
theorem rel_down {K : PySem.W.Frag} {as as' : List Addr} {h0 h : AH} {H H' : Hp} (r0 : RelH K as h0 H) (x : Ext as H as' H') (r : RelH K as' h H') (c : Shut h0 h) : Ext as H as H' ∧ RelH K as (h.take h0.length) H' := by
  obtain ⟨bs, rfl⟩ := x.pre
  have ll := r.len
  rw [List.length_append] at ll
  refine ⟨⟨⟨[], by simp⟩, fun b o e n m => ?_⟩, ?_, ?_, fun i o e => ?_⟩
  · exact ⟨(x.keep b o e n m).1, n⟩
  · rw [List.length_take, ← r0.len]; omega
  · have z := r.nd
    rw [List.nodup_append] at z
    exact z.1
  · rw [List.getElem?_take] at e
    split at e
    · rename_i hi
      obtain ⟨a, e1, e2⟩ := r.at_ i o e
      rw [List.getElem?_append_left (by rw [r0.len]; exact hi)] at e1
      refine ⟨a, e1, e2.down ?_⟩
      rcases c i o hi e with z | z
      · obtain ⟨b, _, e3⟩ := r0.at_ i o z
        exact repH_clean e3
      · rw [r0.len]; exact z
    · cases e
open Classical in
/-- what is not handed out is forgotten -/
noncomputable def trim (h0 : AH) (p : P) (h : AH) : AH := if clean h0.length p = true ∧ Shut h0 h then h.take h0.length else h
theorem trim_ok {K : PySem.W.Frag} {as as' : List Addr} {h0 h : AH} {H H' : Hp} {p : P} {v : V} (r0 : RelH K as h0 H) (x : Ext as H as' H') (r : RelH K as' h H') (rv : Rep K as' H' p v) : ∃ as2, Ext as H as2 H' ∧ RelH K as2 (trim h0 p h) H' ∧ Rep K as2 H' p v := by
  unfold trim
  split
  · rename_i c
    obtain ⟨x2, r2⟩ := rel_down r0 x r c.2
    obtain ⟨bs, rfl⟩ := x.pre
    exact ⟨as, x2, r2, rv.down (by rw [r0.len]; exact c.1)⟩
  · exact ⟨as', x, r, rv⟩
theorem shut_app (h0 j : AH) : Shut h0 (h0 ++ j) := fun i o hi e => .inl (by rw [List.getElem?_append_left hi] at e; exact e)
theorem trim_app {h0 j : AH} {p : P} (c : clean h0.length p = true) : trim h0 p (h0 ++ j) = h0 := by
  unfold trim
  rw [if_pos ⟨c, shut_app h0 j⟩]
  simp
theorem trim_self {h0 : AH} {p : P} : trim h0 p h0 = h0 := by
  unfold trim
  split <;> simp

/-! ### functions of the machine -/
abbrev Fn := List P → AH → Out P
/-- a def's promise by its meaning -/
def spOf (K : PySem.W.Frag) (n : Nat) (m : Fn) : Sp := fun vs H Q E => ∃ as h xs, RelH K as h H ∧ Reps K as H xs vs ∧ xs.length = n ∧
  Post (Rep K) K (fun c d _ H' => E c d H') [] as H (m xs h) Q
/-- the meaning of a def by its body's: ns slots -/
noncomputable def mkFn (ns : Nat) (b : SM) : Fn := fun xs h => match b (xs.map some ++ List.replicate (ns - xs.length) none) h with
  | .nx _ h' => .ok .non (trim h .non h')
  | .rt p h' => .ok p (trim h p h')
  | .exc c p _ h' => .exc c p (trim h p h')
  | _ => .bad
theorem reps_start {K : PySem.W.Frag} {as : List Addr} {H : Hp} {xs : List P} {vs : List V} {N : List Str} (r : Reps K as H xs vs) :
    RepS K as H (xs.map some ++ List.replicate (N.length - xs.length) none) (L2.start N vs) := by
  have l := r.len
  unfold L2.start
  refine ⟨by simp [l], fun i p e => ?_⟩
  by_cases hi : i < xs.length
  · rw [List.getElem?_append_left (by simpa using hi), List.getElem?_map] at e
    cases q : xs[i]? with
    | none => rw [q] at e; cases e
    | some y =>
      rw [q] at e
      have ey : y = p := Option.some.inj (Option.some.inj e)
      subst ey
      obtain ⟨v, e1, e2⟩ := r.get q
      refine ⟨v, ?_, e2⟩
      rw [List.getElem?_append_left (by simp only [List.length_map]; omega), List.getElem?_map, e1]
      rfl
  · rw [List.getElem?_append_right (by simpa using hi), List.getElem?_replicate] at e
    split at e <;> cases e
theorem spOf_len {K : PySem.W.Frag} {n : Nat} {m : Fn} : ∀ vs H Q E, spOf K n m vs H Q E → vs.length = n := fun vs H Q E h => by
  obtain ⟨as, h, xs, _, r, l, _⟩ := h
  rw [← r.len, l]

/-- a def of the text keeps the promise of its meaning -/
theorem fnG_mk {Pr : Program} {w : World} {K : PySem.W.Frag} {mg : Str → Option Value} {base : Heap} {k : Nat} {x qual : Str} {params : Arguments} {body : List Stmt} {scope : Scope} {f : Addr} {fd : FuncData}
    {N ps : List Str} {b : SM} (F : FunD K x qual params body scope [] [] f fd) (S : FnScope N ps scope)
    (hb : ∀ (cdv : Value) (A : Around) (outer : List Env) (s : Shared) (H : Hp) (E : XK), Here (cxOf (CX Pr w) Pr w K mg base N qual scope f cdv A outer s H E) k → Takes (cxOf (CX Pr w) Pr w K mg base N qual scope f cdv A outer s H E) (fun c d _ H' => E c d H') →
      PassesOwn (model Pr w) (cxOf (CX Pr w) Pr w K mg base N qual scope f cdv A outer s H E).A (cxOf (CX Pr w) Pr w K mg base N qual scope f cdv A outer s H E).env (cxOf (CX Pr w) Pr w K mg base N qual scope f cdv A outer s H E).xe → PSsm (cxOf (CX Pr w) Pr w K mg base N qual scope f cdv A outer s H E) (fun c d _ H' => E c d H') body b) :
    FnG Pr w K mg base (k + 1) f fd ps (spOf K ps.length (mkFn N.length b)) := by
  refine fnG_of F S spOf_len fun cdv A outer s H vs Q E hk q => ?_
  refine ⟨_, hb cdv A outer s H E hk (takes_of rfl rfl rfl rfl) (passes_of (X := cxOf (CX Pr w) Pr w K mg base N qual scope f cdv A outer s H E) (K := fun e s' => CX Pr w outer H s E e s') rfl), ?_⟩
  obtain ⟨as, h, xs, rh, r, l, q⟩ := q
  refine ⟨as, h, _, rh, reps_start r, ?_⟩
  unfold mkFn at q
  cases z : b (xs.map some ++ List.replicate (N.length - xs.length) none) h with
  | nx t h' =>
    rw [z] at q
    intro as' H' s' x2 r2 _
    obtain ⟨as2, x3, r3, rv⟩ := trim_ok (p := .non) (v := V.non) rh x2 r2 (by unfold Rep; rfl)
    exact q as2 H' V.non x3 r3 rfl
  | rt p h' =>
    rw [z] at q
    intro as' H' v x2 r2 rv
    obtain ⟨as2, x3, r3, rv2⟩ := trim_ok rh x2 r2 rv
    exact q as2 H' v x3 r3 rv2
  | exc c p t h' =>
    rw [z] at q
    intro as' H' s' d w x2 r2 _ e1 e2
    obtain ⟨as2, x3, r3, rv2⟩ := trim_ok rh x2 r2 e2
    exact q as2 H' d w x3 r3 e1 rv2
  | bk t h' => rw [z] at q; exact q.elim
  | ct t h' => rw [z] at q; exact q.elim
  | bad => rw [z] at q; exact q.elim
end AM

/-! AM3: names, constants, arguments, calls of defs. -/
namespace AM
open PySem PySem.Spec PyProof.Rows L2
section
variable {X : Cx} {W : WX}

/-! ### names and constants -/
def eV (i : Nat) : EM := fun t h => match t[i]? with
  | some (some p) => .ok p h
  | _ => .bad
def eC (p : P) : EM := fun _ h => .ok p h
theorem w_var (i : Nat) {x : Str} {pos : Pos} (hN : X.N[i]? = some x := by rfl) (hv : Vis X.env.scope x := by first | exact Or.inl rfl | exact Or.inr (Or.inl rfl) | exact Or.inr (Or.inr rfl))
    (hd : (x == ("__debug__" : Str)) = false := by decide) (hc : (x == ("__classdict__" : Str)) = false := by decide) : PEm X W (.Name x pos) (eV i) := by
  refine PE_imp (pe_var hN hv hd hc) fun s H Q q => ?_
  obtain ⟨as, h, t, rh, rs, q⟩ := q
  unfold eV at q
  split at q
  · rename_i p e
    obtain ⟨v, e1, e2⟩ := rs.2 i p e
    exact ⟨v, e1, Post.done q (Ext.refl _ _) rh e2⟩
  · exact q.elim
theorem w_of_const {e : Expr} {v : V} {p : P} (he : PE X e (tC v)) (hp : ∀ as H, Rep X.K as H p v) : PEm X W e (eC p) := by
  refine PE_imp he fun s H Q q => ?_
  obtain ⟨as, h, t, rh, rs, q⟩ := q
  exact Post.done q (Ext.refl _ _) rh (hp as H)
theorem w_int {i j pos} : PEm X W (.Constant (.int i) j pos) (eC (.int i)) := w_of_const pe_int fun _ _ => rfl
theorem w_bl {b j pos} : PEm X W (.Constant (.bool b) j pos) (eC (.bl b)) := w_of_const pe_bl fun _ _ => rfl
theorem w_non {j pos} : PEm X W (.Constant .none j pos) (eC .non) := w_of_const pe_non fun _ _ => rfl
theorem w_str {x j pos} : PEm X W (.Constant (.str x) j pos) (eC (.str x)) := w_of_const pe_str fun _ _ => rfl
/-- a constant of the module -/
structure Glo (K : PySem.W.Frag) (mg : Str → Option Value) (x : Str) (p : P) : Prop where
  ex : ∃ v u, mg x = some u ∧ RelV v u ∧ ∀ as H, Rep K as H p v
theorem w_glo {x : Str} {p : P} {pos : Pos} (g : Glo X.K X.mg x p) (hg : Gl X x := by rfl) (hd : (x == ("__debug__" : Str)) = false := by decide) : PEm X W (.Name x pos) (eC p) := by
  obtain ⟨v, u, h1, h2, h3⟩ := g.ex
  exact w_of_const (pe_glob hg h1 h2 hd) h3

/-! ### arguments -/
def lN : LM := fun _ h => .ok [] h
def lC (m : EM) (r : LM) : LM := fun t h => (m t h).bind fun p h1 => (r t h1).bind fun ps h2 => .ok (p :: ps) h2
theorem wa_nil : PAm X W [] lN := PA_imp pa_nil fun s H Q q => by
  obtain ⟨as, h, t, rh, rs, q⟩ := q
  exact Post.done q (Ext.refl _ _) rh reps_nil
theorem wa_cons {e : Expr} {es : List Expr} {m : EM} {r : LM} (he : PEm X W e m) (hr : PAm X W es r) (hs : starEach (e :: es) X.env = (false, eval e X.env) :: starEach es X.env := by rfl) : PAm X W (e :: es) (lC m r) := by
  refine PA_imp (pa_cons he hr hs) fun s H Q q => ?_
  obtain ⟨as, h, t, rh, rs, q⟩ := q
  refine ⟨as, h, t, rh, rs, (Post.bind (R := Rep X.K) q).mono fun v H1 z => ?_⟩
  obtain ⟨as1, h1, p, x1, r1, e1, q1⟩ := z
  refine ⟨as1, h1, t, r1, rs.mono x1, (Post.bind (R := Reps X.K) q1).mono fun vs H2 z => ?_⟩
  obtain ⟨as2, h2, ps, x2, r2, e2, q2⟩ := z
  exact Post.done q2 (Ext.refl _ _) r2 (reps_cons (e1.mono x2) e2)

/-! ### the call of a def -/
theorem run_G {k n : Nat} {f : Addr} {fd : FuncData} {ps : List Str} {m : Fn} {pins : List (Addr × Obj)} {σ : L2.St} {H : Hp} {s : Shared} {Q : VK} {args : Args} {us : List Value} {vs : List V} {as : List Addr} {h : AH} {xs : List P} {A : Around}
    (F : FnG X.prog X.w X.K X.mg X.base k f fd ps (spOf X.K n m)) (hr : Room k A) (hg : A.guards = some []) (e0 : Env0 X.prog X.w X.K X.mg X.base A X.stack s H) (tk : Takes X W) (I : Inv X pins σ H s) (b : BindsTo s fd args (ps.zip us)) (r : Vals vs us)
    (rh : RelH X.K as h H) (rv : Reps X.K as H xs vs) (l : xs.length = n) (q : Post (Rep X.K) X.K W σ as H (m xs h) Q) :
    codeAny (model X.prog X.w) A (.call (.ref f) args) (fun r s' => match r with | .ok (.ret v) => EP X pins σ Q v s' | .ok _ => False | .error e => X.xe e s') s := by
  refine codeAny_mono (F.run A X.stack s H args us vs Q (fun c d H' => W c d σ H') hr hg e0 b r ⟨as, h, xs, rh, rv, l, q⟩) fun r s' z => ?_
  cases r with
  | error e => exact tk e s' (XE.of_call I (fun _ _ _ z => z) z)
  | ok fl =>
    cases fl with
    | ret u => exact I.after z
    | next => exact z.elim
    | brk => exact z.elim
    | cont => exact z.elim

/-- a def of the module, by its name -/
structure Has (Pr : Program) (w : World) (K : PySem.W.Frag) (mg : Str → Option Value) (base : Heap) (x : Str) (params : Arguments) (ps : List Str) (k : Nat) (m : Fn) : Prop where
  ex : ∃ f fd qual body scope, mg x = some (.ref f) ∧ FnG Pr w K mg base k f fd ps (spOf K ps.length m) ∧ FunD K x qual params body scope [] [] f fd
def eCall (n : Nat) (m : Fn) (a : LM) : EM := fun t h => (a t h).bind fun xs h1 => if xs.length = n then m xs h1 else .bad
/-- positional arguments bind one by one -/
def BindP (params : Arguments) (ps : List Str) : Prop := ∀ (x qual : Str) (body : List Stmt) (scope : Scope) (kV doc pm : Value) (an : Option Addr) (cdv ct : Value) (us : List Value), us.length = ps.length →
  bindArgs (PySem.W.fnOf x qual params body scope .none kV doc pm an cdv ct) ⟨us, []⟩ = pure (ps.zip us)
theorem w_call {k n : Nat} {x : Str} {params : Arguments} {ps : List Str} {m : Fn} {e : Expr} {es : List Expr} {a : LM} {p pos : Pos} (F : Has X.prog X.w X.K X.mg X.base x params ps k m) (hb : BindP params ps) (hk : Here X k) (tk : Takes X W)
    (ha : PAm X W (e :: es) a) (hn : ps.length = n := by rfl) (hg : Gl X x := by rfl) (hd : (x == ("__debug__" : Str)) = false := by decide) (he : starEach (e :: es) X.env = (false, eval e X.env) :: starEach es X.env := by rfl)
    (hpl : (backTo pos (starEach es X.env)).any (·.1) = false := by rfl) : PEm X W (.Call (.Name x p) (e :: es) [] pos) (eCall n m a) := by
  obtain ⟨f, fd, qual, body, scope, hm, G, D⟩ := F.ex
  subst hn
  refine ⟨fun pins s σ H Q I q => ?_⟩
  obtain ⟨as, h, t, rh, rs, q⟩ := q
  refine wpAny_Call_Name_kw (ld_glob I hg hm ?_ hd)
  refine PySem.W.callWith_K (h₀ := X.base) I.ok.mod.kin D.kp (thn (ha.run pos pins s σ H _ I ⟨as, h, t, rh, rs, Post.bind (R := Reps X.K) q⟩) fun us s1 z => ?_) he hpl
  obtain ⟨vs, H1, I1, r, as1, h1, xs, x1, r1, e1, q1⟩ := z
  refine ⟨I1.kIn, ?_⟩
  split at q1
  · rename_i l
    refine wpAny_call (run_G G hk.room hk.gd I1.env0 tk I1 ?_ r r1 e1 l q1)
    exact D.bindsA (fun kV doc pm an cdv ct us hl => hb x qual body scope kV doc pm an cdv ct us hl) _ us (by rw [← r.length, ← e1.len, l])
  · exact q1.elim
end
end AM

/-! AM4: calls without arguments, with keywords; methods, properties, new instances. -/
namespace AM
open PySem PySem.Spec PyProof.Rows L2
section
variable {X : Cx} {W : WX}
theorem w_call0 {k : Nat} {x : Str} {params : Arguments} {m : Fn} {p pos : Pos} (F : Has X.prog X.w X.K X.mg X.base x params [] k m) (hb : BindP params []) (hk : Here X k) (tk : Takes X W)
    (hg : Gl X x := by rfl) (hd : (x == ("__debug__" : Str)) = false := by decide) : PEm X W (.Call (.Name x p) [] [] pos) (eCall 0 m lN) := by
  obtain ⟨f, fd, qual, body, scope, hm, G, D⟩ := F.ex
  refine ⟨fun pins s σ H Q I q => ?_⟩
  obtain ⟨as, h, t, rh, rs, q⟩ := q
  refine wpAny_Call_Name_kw (ld_glob I hg hm ?_ hd)
  refine PySem.W.callWith_K0 I.kIn D.kp (wpAny_call (run_G G hk.room hk.gd I.env0 tk I ?_ .nil rh reps_nil rfl q))
  exact D.bindsA (fun kV doc pm an cdv ct us hl => hb x qual body scope kV doc pm an cdv ct us hl) _ [] rfl

/-! ### keywords -/
def permL {α : Type} (perm : List Nat) (us ws : List α) : List α := perm.filterMap fun i => (us ++ ws)[i]?
theorem Reps.perm {K : PySem.W.Frag} {as : List Addr} {H : Hp} {xs : List P} {vs : List V} (r : Reps K as H xs vs) : ∀ perm : List Nat, Reps K as H (perm.filterMap fun i => xs[i]?) (perm.filterMap fun i => vs[i]?)
  | [] => reps_nil
  | i :: is => by
    rw [List.filterMap_cons, List.filterMap_cons]
    by_cases hi : i < xs.length
    · obtain ⟨v, e1, e2⟩ := r.get (i := i) (p := xs[i]) (by simp [hi])
      rw [e1]
      simp only [List.getElem?_eq_getElem hi]
      exact reps_cons e2 (Reps.perm r is)
    · have hv : ¬ i < vs.length := by rw [← r.len]; exact hi
      simp only [List.getElem?_eq_none (Nat.not_lt.mp hi), List.getElem?_eq_none (Nat.not_lt.mp hv)]
      exact Reps.perm r is
theorem vals_perm {vs : List V} {us : List Value} (r : Vals vs us) : ∀ perm : List Nat, Vals (perm.filterMap fun i => vs[i]?) (perm.filterMap fun i => us[i]?)
  | [] => .nil
  | i :: is => by
    rw [List.filterMap_cons, List.filterMap_cons]
    by_cases hi : i < vs.length
    · obtain ⟨v, e1, e2⟩ := r.get (i := i) (x := vs[i]) (by simp [hi])
      rw [e1]
      simp only [List.getElem?_eq_getElem hi]
      exact .cons e2 (vals_perm r is)
    · have hv : ¬ i < us.length := by rw [← r.length]; exact hi
      simp only [List.getElem?_eq_none (Nat.not_lt.mp hi), List.getElem?_eq_none (Nat.not_lt.mp hv)]
      exact vals_perm r is
abbrev PKm (X : Cx) (W : WX) (kws : List Keyword) (m : LM) : Prop := PK X kws (TAm X.K W m)
theorem PK_imp {kws : List Keyword} {t t' : TA} (h : PK X kws t) (i : ∀ s H Q, t' s H Q → t s H Q) : PK X kws t' := ⟨fun pos pins s σ H Q I q => h.run pos pins s σ H Q I (i _ _ _ q)⟩
theorem wk_nil : PKm X W [] lN := PK_imp pk_nil fun s H Q q => by
  obtain ⟨as, h, t, rh, rs, q⟩ := q
  exact Post.done q (Ext.refl _ _) rh reps_nil
theorem wk_cons {nm : Option Str} {kpos : Pos} {e : Expr} {es : List Keyword} {m : EM} {r : LM} (he : PEm X W e m) (hr : PKm X W es r) : PKm X W (⟨nm, e, kpos⟩ :: es) (lC m r) := by
  refine PK_imp (pk_cons he hr) fun s H Q q => ?_
  obtain ⟨as, h, t, rh, rs, q⟩ := q
  refine ⟨as, h, t, rh, rs, (Post.bind (R := Rep X.K) q).mono fun v H1 z => ?_⟩
  obtain ⟨as1, h1, p, x1, r1, e1, q1⟩ := z
  refine ⟨as1, h1, t, r1, rs.mono x1, (Post.bind (R := Reps X.K) q1).mono fun vs H2 z => ?_⟩
  obtain ⟨as2, h2, ps, x2, r2, e2, q2⟩ := z
  exact Post.done q2 (Ext.refl _ _) r2 (reps_cons (e1.mono x2) e2)
def eCallK (n nk np : Nat) (perm : List Nat) (m : Fn) (a b : LM) : EM := fun t h => (a t h).bind fun xs h1 => (b t h1).bind fun ys h2 =>
  if xs.length = n ∧ ys.length = nk ∧ (permL perm xs ys).length = np then m (permL perm xs ys) h2 else .bad
def BindK (params : Arguments) (ps : List Str) (n : Nat) (ks : List Str) (perm : List Nat) : Prop := ∀ (x qual : Str) (body : List Stmt) (scope : Scope) (kV doc pm : Value) (an : Option Addr) (cdv ct : Value) (us ws : List Value), us.length = n → ws.length = ks.length →
  bindArgs (PySem.W.fnOf x qual params body scope .none kV doc pm an cdv ct) ⟨us, ks.zip ws⟩ = pure (ps.zip (permL perm us ws))
theorem FunD.bindK {K : PySem.W.Frag} {x qual : Str} {params : Arguments} {body : List Stmt} {scope : Scope} {f : Addr} {fd : FuncData} {ps ks : List Str} {n : Nat} {perm : List Nat} (D : FunD K x qual params body scope [] [] f fd) (hb : BindK params ps n ks perm)
    (s : Shared) (us ws : List Value) (l1 : us.length = n) (l2 : ws.length = ks.length) : BindsTo s fd ⟨us, ks.zip ws⟩ (ps.zip (permL perm us ws)) := by
  obtain ⟨oc, od, dV, kV, doc, pm, an, cdv, ct, osl, rfl, lk, hcd, hD, hK⟩ := D.ex
  rcases hD with ⟨_, rfl⟩ | ⟨z, _⟩
  · exact .of_eq (hb x qual body scope kV doc pm an cdv ct us ws l1 l2)
  · exact absurd rfl z
/-- f(k = v, ..) -/
theorem w_callK0 {k np : Nat} {x : Str} {params : Arguments} {ps ks : List Str} {perm : List Nat} {m : Fn} {kws : List Keyword} {b : LM} {p pos : Pos} (F : Has X.prog X.w X.K X.mg X.base x params ps k m) (hb : BindK params ps 0 ks perm) (hk : Here X k) (tk : Takes X W)
    (hkw : PKm X W kws b) (hn : ps.length = np := by rfl) (hall : (backToKw pos (keywordEach kws X.env)).all (·.1.isSome) = true := by rfl) (hks : (backToKw pos (keywordEach kws X.env)).filterMap (·.1) = ks := by rfl) (hg : Gl X x := by rfl) (hd : (x == ("__debug__" : Str)) = false := by decide)
    (hpl : ((backTo pos (starEach [] X.env)).any (·.1) || (backToKw pos (keywordEach kws X.env)).any (·.1.isNone)) = false := by rfl) : PEm X W (.Call (.Name x p) [] kws pos) (eCallK 0 ks.length np perm m lN b) := by
  obtain ⟨f, fd, qual, body, scope, hm, G, D⟩ := F.ex
  subst hn
  refine ⟨fun pins s σ H Q I q => ?_⟩
  obtain ⟨as, h, t, rh, rs, q⟩ := q
  refine wpAny_Call_Name_kw (ld_glob I hg hm ?_ hd)
  refine PySem.W.callWith_KW0 (h₀ := X.base) I.ok.mod.kin D.kp hall (thn (hkw.run pos pins s σ H _ I ⟨as, h, t, rh, rs, Post.bind (R := Reps X.K) q⟩) fun us s1 z => ?_) hpl
  obtain ⟨vs, H1, I1, r, as1, h1, xs, x1, r1, e1, q1⟩ := z
  refine ⟨I1.kIn, ?_⟩
  rw [hks]
  split at q1
  · rename_i l
    exact wpAny_call (run_G G hk.room hk.gd I1.env0 tk I1 (FunD.bindK D hb _ [] us rfl (by rw [← r.length, ← e1.len, l.2.1])) (vals_perm r perm) r1 (e1.perm perm) l.2.2 q1)
  · exact q1.elim
theorem Reps.permL {K : PySem.W.Frag} {as : List Addr} {H : Hp} {xs ys : List P} {vs ws : List V} (r : Reps K as H xs vs) (r2 : Reps K as H ys ws) (perm : List Nat) : Reps K as H (AM.permL perm xs ys) (AM.permL perm vs ws) := (r.app r2).perm perm
theorem w_callK {k n np : Nat} {x : Str} {params : Arguments} {ps ks : List Str} {perm : List Nat} {m : Fn} {e : Expr} {es : List Expr} {a : LM} {kws : List Keyword} {b : LM} {p pos : Pos} (F : Has X.prog X.w X.K X.mg X.base x params ps k m) (hb : BindK params ps n ks perm) (hk : Here X k) (tk : Takes X W)
    (ha : PAm X W (e :: es) a) (hkw : PKm X W kws b) (hn : ps.length = np := by rfl) (hall : (backToKw pos (keywordEach kws X.env)).all (·.1.isSome) = true := by rfl) (hks : (backToKw pos (keywordEach kws X.env)).filterMap (·.1) = ks := by rfl) (hg : Gl X x := by rfl) (hd : (x == ("__debug__" : Str)) = false := by decide)
    (he : starEach (e :: es) X.env = (false, eval e X.env) :: starEach es X.env := by rfl)
    (hpl : ((backTo pos (starEach (e :: es) X.env)).any (·.1) || (backToKw pos (keywordEach kws X.env)).any (·.1.isNone)) = false := by rfl) : PEm X W (.Call (.Name x p) (e :: es) kws pos) (eCallK n ks.length np perm m a b) := by
  obtain ⟨f, fd, qual, body, scope, hm, G, D⟩ := F.ex
  subst hn
  refine ⟨fun pins s σ H Q I q => ?_⟩
  obtain ⟨as, h, t, rh, rs, q⟩ := q
  refine wpAny_Call_Name_kw (ld_glob I hg hm ?_ hd)
  refine PySem.W.callWith_KW (h₀ := X.base) I.ok.mod.kin D.kp hall (thn (ha.run pos pins s σ H _ I ⟨as, h, t, rh, rs, Post.bind (R := Reps X.K) q⟩) fun us s1 z => ?_) hpl he
  obtain ⟨vs, H1, I1, r, as1, h1, xs, x1, r1, e1, q1⟩ := z
  refine thn (hkw.run pos pins s1 σ H1 _ I1 ⟨as1, h1, t, r1, rs.mono x1, Post.bind (R := Reps X.K) q1⟩) fun ws s2 z => ?_
  obtain ⟨zs, H2, I2, rz, as2, h2, ys, x2, r2, e2, q2⟩ := z
  refine ⟨I2.kIn, ?_⟩
  rw [hks]
  split at q2
  · rename_i l
    exact wpAny_call (run_G G hk.room hk.gd I2.env0 tk I2 (FunD.bindK D hb _ us ws (by rw [← r.length, ← e1.len, l.1]) (by rw [← rz.length, ← e2.len, l.2.1])) (vals_perm (r.append rz) perm) r2 (Reps.permL (e1.mono x2) e2 perm) l.2.2 q2)
  · exact q2.elim

/-! ### methods -/
structure HasM (Pr : Program) (w : World) (K : PySem.W.Frag) (mg : Str → Option Value) (base : Heap) (C mt : Str) (params : Arguments) (ps : List Str) (k : Nat) (m : Fn) : Prop where
  cls : SlX.SCls K (He.ga K C)
  ex : ∃ f fd qual body scope, Meth K (He.ga K C) mt f ∧ FnG Pr w K mg base k f fd ps (spOf K ps.length m) ∧ FunD K mt qual params body scope [] [] f fd
/-- the instance that a value is -/
def insOf (h : AH) : P → Option (Nat × Str × List (Option P))
  | .obj i => match h[i]? with
    | some (.ins C fs) => some (i, C, fs)
    | _ => none
  | _ => none
theorem insOf_ok {K : PySem.W.Frag} {as : List Addr} {h : AH} {H : Hp} {p : P} {v : V} {i : Nat} {C : Str} {fs : List (Option P)} (rh : RelH K as h H) (r : Rep K as H p v) (e : insOf h p = some (i, C, fs)) :
    p = .obj i ∧ h[i]? = some (.ins C fs) ∧ ∃ a dx vs, v = .ref a ∧ as[i]? = some a ∧ SlX.Slt H a (He.ga K C) dx vs ∧ ∀ (i : Nat) (p : P), fs[i]? = some (some p) → ∃ v, vs[i]? = some (some v) ∧ Rep K as H p v := by
  unfold insOf at e
  split at e
  · rename_i n
    split at e
    · rename_i C' fs' z
      cases e
      unfold Rep at r
      obtain ⟨a, e1, e2⟩ := r
      obtain ⟨dx, vs, q1, q2⟩ := rh.obj z e2
      exact ⟨rfl, z, a, dx, vs, e1, e2, q1, q2⟩
    · cases e
  · cases e
def eMeth (C : Str) (n : Nat) (m : Fn) (o : EM) (a : LM) : EM := fun t h => (o t h).bind fun x h1 => match insOf h1 x with
  | some (_, D, _) => if D = C then (a t h1).bind fun xs h2 => if xs.length + 1 = n then m (x :: xs) h2 else .bad else .bad
  | none => .bad
theorem w_meth {pl : Sem Bool} {k n : Nat} {C mt : Str} {params : Arguments} {ps : List Str} {m : Fn} {o e : Expr} {es : List Expr} {mo : EM} {a : LM} {apos pos : Pos} (F : HasM X.prog X.w X.K X.mg X.base C mt params ps k m) (hb : BindP params ps) (hk : Here X k) (tk : Takes X W)
    (ho : PEm X W o mo) (ha : PAm X W (e :: es) a) (hn : ps.length = n := by rfl) (hst : starEach (e :: es) X.env = (false, eval e X.env) :: starEach es X.env := by rfl) (hpl : (backTo pos (starEach es X.env)).any (·.1) = false := by rfl)
    (ht : eval (.Call (.Attribute o mt apos) (e :: es) [] pos) X.env = (do
      let ov ← eval o X.env
      standAt apos.atName
      let (f, first) ← holding [ov] (getMethod ov mt pl)
      callWith pos f first (backTo pos (starEach (e :: es) X.env)) (backToKw pos (keywordEach [] X.env))) := by rfl) :
    PEm X W (.Call (.Attribute o mt apos) (e :: es) [] pos) (eMeth C n m mo a) := by
  obtain ⟨f, fd, qual, body, scope, hm, G, D⟩ := F.ex
  subst hn
  refine ⟨fun pins s σ H Q I q => ?_⟩
  obtain ⟨as, h, t, rh, rs, q⟩ := q
  refine PySem.W.methodCall_KW (pl := pl) (thn (ho.run pins s σ H _ I ⟨as, h, t, rh, rs, Post.bind (R := Rep X.K) q⟩) fun u s1 z => ?_) ht
  obtain ⟨v, H1, I1, rv, as1, h1, x, x1, r1, e1, q1⟩ := z
  split at q1
  · rename_i j D' fs z
    split at q1
    · rename_i eD
      subst eD
      obtain ⟨_, _, b, dx, vs, ev, _, hsl, _⟩ := insOf_ok r1 e1 z
      subst ev
      cases rv
      refine SlX.getmethsl_ok I1 hsl F.cls hm ?_
      refine PySem.W.callWith_K (first := [.ref b]) (h₀ := X.base) I.ok.mod.kin hm.kp (thn (ha.run pos pins s1 σ H1 _ I1 ⟨as1, h1, t, r1, rs.mono x1, Post.bind (R := Reps X.K) q1⟩) fun us s2 z => ?_) hst hpl
      obtain ⟨ws, H2, I2, r, as2, h2, xs, x2, r2, e2, q2⟩ := z
      refine ⟨I2.kIn, ?_⟩
      split at q2
      · rename_i l
        refine wpAny_call (run_G G hk.room hk.gd I2.env0 tk I2 ?_ (.cons (show RelV (.ref b) (.ref b) from rfl) r) r2 (reps_cons (e1.mono x2) e2) l q2)
        exact D.bindsA (fun kV doc pm an cdv ct us hl => hb mt qual body scope kV doc pm an cdv ct us hl) _ (.ref b :: us) (by simp only [List.length_cons]; rw [← r.length, ← e2.len, l])
      · exact q2.elim
    · exact q1.elim
  · exact q1.elim
theorem w_meth0 {pl : Sem Bool} {k n : Nat} {C mt : Str} {params : Arguments} {ps : List Str} {m : Fn} {o : Expr} {mo : EM} {apos pos : Pos} (F : HasM X.prog X.w X.K X.mg X.base C mt params ps k m) (hb : BindP params ps) (hk : Here X k) (tk : Takes X W)
    (ho : PEm X W o mo) (hn : ps.length = n := by rfl)
    (ht : eval (.Call (.Attribute o mt apos) [] [] pos) X.env = (do
      let ov ← eval o X.env
      standAt apos.atName
      let (f, first) ← holding [ov] (getMethod ov mt pl)
      callWith pos f first (backTo pos (starEach [] X.env)) (backToKw pos (keywordEach [] X.env))) := by rfl) :
    PEm X W (.Call (.Attribute o mt apos) [] [] pos) (eMeth C n m mo lN) := by
  obtain ⟨f, fd, qual, body, scope, hm, G, D⟩ := F.ex
  subst hn
  refine ⟨fun pins s σ H Q I q => ?_⟩
  obtain ⟨as, h, t, rh, rs, q⟩ := q
  refine PySem.W.methodCall_KW (pl := pl) (thn (ho.run pins s σ H _ I ⟨as, h, t, rh, rs, Post.bind (R := Rep X.K) q⟩) fun u s1 z => ?_) ht
  obtain ⟨v, H1, I1, rv, as1, h1, x, x1, r1, e1, q1⟩ := z
  split at q1
  · rename_i j D' fs z
    split at q1
    · rename_i eD
      subst eD
      obtain ⟨_, _, b, dx, vs, ev, _, hsl, _⟩ := insOf_ok r1 e1 z
      subst ev
      cases rv
      refine SlX.getmethsl_ok I1 hsl F.cls hm ?_
      unfold lN Out.bind at q1
      refine PySem.W.callWith_K0 (first := [.ref b]) I1.kIn hm.kp ?_
      dsimp only at q1
      split at q1
      · rename_i l
        refine wpAny_call (run_G G hk.room hk.gd I1.env0 tk I1 ?_ (.cons (show RelV (.ref b) (.ref b) from rfl) .nil) r1 (reps_cons e1 reps_nil) l q1)
        exact D.bindsA (fun kV doc pm an cdv ct us hl => hb mt qual body scope kV doc pm an cdv ct us hl) _ [.ref b] l
      · exact q1.elim
    · exact q1.elim
  · exact q1.elim

/-! ### properties -/
structure HasP (Pr : Program) (w : World) (K : PySem.W.Frag) (mg : Str → Option Value) (base : Heap) (C mt : Str) (params : Arguments) (ps : List Str) (k : Nat) (m : Fn) : Prop where
  cls : SlX.SCls K (He.ga K C)
  ex : ∃ p g fd qual body scope, PySem.W.findIn K (.ref (He.ga K C)) mt = some (some (.ref p)) ∧ PySem.W.specialIn K (.ref p) "__get__" = some (some (.builtin "property.__get__")) ∧ PySem.W.takesIn K (.ref p) = some true ∧
    (∃ rest, PySem.W.recIn K p "property" = some (.ref g :: rest)) ∧ FnG Pr w K mg base k g fd ps (spOf K ps.length m) ∧ FunD K mt qual params body scope [] [] g fd
/-- what must not raise -/
def Out.calm {α : Type} (o : Out α) : Out α := match o with
  | .ok a h => .ok a h
  | _ => .bad
def eProp (C : Str) (m : Fn) (o : EM) : EM := fun t h => (o t h).bind fun x h1 => match insOf h1 x with
  | some (_, D, _) => if D = C then (m [x] h1).calm else .bad
  | none => .bad
theorem Post.calm {α β : Type} {R : List Addr → Hp → α → β → Prop} {K : PySem.W.Frag} {W W' : WX} {s s' : L2.St} {as : List Addr} {H : Hp} {o : Out α} {Q : β → Hp → Prop} (q : Post R K W s as H o.calm Q) : Post R K W' s' as H o Q := by
  cases o with
  | ok a h => exact q
  | exc c p h => exact q.elim
  | bad => exact q.elim
theorem run_G0 {k n : Nat} {f : Addr} {fd : FuncData} {ps : List Str} {m : Fn} {pins : List (Addr × Obj)} {σ : L2.St} {H : Hp} {s : Shared} {Q : VK} {args : Args} {us : List Value} {vs : List V} {as : List Addr} {h : AH} {xs : List P} {A : Around}
    (F : FnG X.prog X.w X.K X.mg X.base k f fd ps (spOf X.K n m)) (hr : Room k A) (hg : A.guards = some []) (e0 : Env0 X.prog X.w X.K X.mg X.base A X.stack s H) (I : Inv X pins σ H s) (b : BindsTo s fd args (ps.zip us)) (r : Vals vs us)
    (rh : RelH X.K as h H) (rv : Reps X.K as H xs vs) (l : xs.length = n) (q : Post (Rep X.K) X.K W σ as H (m xs h).calm Q) :
    codeAny (model X.prog X.w) A (.call (.ref f) args) (fun r s' => match r with | .ok (.ret v) => EP X pins σ Q v s' | _ => False) s := by
  refine codeAny_mono (F.run A X.stack s H args us vs Q (fun _ _ _ => False) hr hg e0 b r ⟨as, h, xs, rh, rv, l, q.calm⟩) fun r s' z => ?_
  cases r with
  | error e =>
    obtain ⟨_, _, _, _, _, _, _, _, _, _, _, _, no⟩ := z
    exact no.elim
  | ok fl =>
    cases fl with
    | ret u => exact I.after z
    | next => exact z.elim
    | brk => exact z.elim
    | cont => exact z.elim
theorem w_prop {k : Nat} {C mt q0 : Str} {params : Arguments} {m : Fn} {o : Expr} {mo : EM} {pos : Pos} (F : HasP X.prog X.w X.K X.mg X.base C mt params [q0] k m) (hb : BindP params [q0]) (hk : Here X (k + 1))
    (ho : PEm X W o mo) (hbase : attributeBase o mt X.env (eval o X.env) = eval o X.env := by rfl) : PEm X W (.Attribute o mt pos) (eProp C m mo) := by
  obtain ⟨p, g, fd, qual, body, scope, h1, h2, h3, ⟨rest, h4⟩, G, D⟩ := F.ex
  refine ⟨fun pins s σ H Q I q => ?_⟩
  obtain ⟨as, h, t, rh, rs, q⟩ := q
  refine attr_of hbase (thn (ho.run pins s σ H _ I ⟨as, h, t, rh, rs, Post.bind (R := Rep X.K) q⟩) fun u s1 z => ?_)
  obtain ⟨v, H1, I1, rv, as1, hh1, x, x1, r1, e1, q1⟩ := z
  split at q1
  · rename_i j D' fs z
    split at q1
    · rename_i eD
      subst eD
      obtain ⟨_, _, b, dx, vs, ev, _, hsl, _⟩ := insOf_ok r1 e1 z
      subst ev
      cases rv
      obtain ⟨sl, od, _, J, _⟩ := SlX.slt_inst I1 hsl
      have I2 := I1.tok (s1.toks + 1)
      refine PySem.W.get_bind I1.kIn J (PySem.W.plainGet_of (F.cls.get mt)).1 (PySem.W.findObj_data F.cls.ic h1 h2 h3) (PySem.W.plainGet_of (F.cls.get mt)).2
        (wpAny_call (PySem.W.prop_get (s := { s1 with toks := s1.toks + 1 }) I1.kIn h4 ?_))
      refine codeAny_mono (run_G0 (Q := Q) G hk.room.in1 hk.gd I2.env0.in1 I2 ?_ (.cons (show RelV (.ref b) (.ref b) from rfl) .nil) r1 (reps_cons e1 reps_nil) rfl q1) fun r s' hq => ?_
      · exact D.bindsA (fun kV doc pm an cdv ct us hl => hb mt qual body scope kV doc pm an cdv ct us hl) _ [.ref b] rfl
      · cases r with
        | error e => exact hq.elim
        | ok fl =>
          cases fl with
          | ret u =>
            obtain ⟨v, H', I3, rv, qv⟩ := hq
            exact wpAny_of_eq (PySem.W.handedOut_of (handed_of rv)) ⟨v, H', I3, rv, qv⟩
          | next => exact hq.elim
          | brk => exact hq.elim
          | cont => exact hq.elim
    · exact q1.elim
  · exact q1.elim
end
end AM

/-! AM5: new instances, slots; targets and stores; statements. -/
namespace AM
open PySem PySem.Spec PyProof.Rows L2
section
variable {X : Cx} {W : WX}

/-! ### new instances -/
structure HasC (Pr : Program) (w : World) (K : PySem.W.Frag) (mg : Str → Option Value) (base : Heap) (C : Str) (params : Arguments) (ps : List Str) (k : Nat) (m : Fn) : Prop where
  at_ : mg C = some (.ref (He.ga K C))
  ex : ∃ f fd qual body scope, Mk K (He.ga K C) f ∧ FnG Pr w K mg base k f fd ps (spOf K ps.length m) ∧ FunD K "__init__" qual params body scope [] [] f fd
def newOf (C : Str) (m : Fn) (xs : List P) (h : AH) : Out P := (m (.obj h.length :: xs) (h ++ [.ins C []])).bind fun r h2 => match r with
  | .non => .ok (.obj h.length) h2
  | _ => .bad
theorem noGuard (args : Args) : Code.guards (.builtin "type.__call__" args) = [] := by
  have e : Code.isGuard (.builtin "type.__call__" args) = false := by
    have z : ¬ ("type.__call__" ∈ guardIds) := by decide +kernel
    simp [Code.isGuard, z]
  unfold Code.guards
  rw [e]
  rfl
theorem guards_make {A : Around} {args : Args} (h : A.guards = some []) : (A.under (.builtin "type.__call__" args)).guards = some [] := by
  show pushGuards (Code.guards (.builtin "type.__call__" args)) A.guards = some []
  rw [h, noGuard]
  rfl
theorem run_new {k : Nat} {f : Addr} {fd : FuncData} {ps ks : List Str} {C : Str} {m : Fn} {pins : List (Addr × Obj)} {σ : L2.St} {H : Hp} {s : Shared} {Q : VK} {us ws bs : List Value} {vs : List V} {as : List Addr} {h : AH} {xs : List P}
    (M : Mk X.K (He.ga X.K C) f) (F : FnG X.prog X.w X.K X.mg X.base k f fd ps (spOf X.K ps.length m)) (hk : Here X (k + 1)) (tk : Takes X W) (I : Inv X pins σ H s)
    (r : Vals vs bs) (bb : ∀ (s : Shared) (u : Value), X.K.In s.heap → BindsTo s fd ⟨u :: us, ks.zip ws⟩ (ps.zip (u :: bs)))
    (rh : RelH X.K as h H) (rv : Reps X.K as H xs vs) (l : xs.length + 1 = ps.length) (q : Post (Rep X.K) X.K W σ as H (newOf C m xs h) Q) :
    wpAny (model X.prog X.w) X.A (call (.ref (He.ga X.K C)) us (ks.zip ws)) (EP X pins σ Q) X.xe s := by
  have I2 := Inv.made (C := He.ga X.K C) I
  have f1 : H s.heap.objs.size = none := I.hok.fresh (Nat.le_refl _)
  have f2 : upd H s.heap.objs.size (.own (s.heap.objs.size + 1)) (s.heap.objs.size + 1) = none := by
    rw [upd_ne (Nat.succ_ne_self _)]
    exact I.hok.fresh (Nat.le_succ _)
  have r1 : RelH X.K as h (upd H s.heap.objs.size (.own (s.heap.objs.size + 1))) := rh.laid f1
  have x1 : Ext as H as (upd H s.heap.objs.size (.own (s.heap.objs.size + 1))) := Ext.laid rh f1
  have x2 := Ext.push (o := .ins (He.ga X.K C) s.heap.objs.size []) r1 f2
  have x3 := x1.trans x2
  have r2 : RelH X.K (as ++ [s.heap.objs.size + 1]) (h ++ [.ins C []]) (upd (upd H s.heap.objs.size (.own (s.heap.objs.size + 1))) (s.heap.objs.size + 1) (.ins (He.ga X.K C) s.heap.objs.size [])) :=
    r1.push f2 ⟨s.heap.objs.size, [], .inl ⟨upd_same, rfl⟩, fun i p e => by simp at e⟩
  have e0 : (as ++ [s.heap.objs.size + 1])[h.length]? = some (s.heap.objs.size + 1) := by
    rw [← rh.len]
    simp
  have q2 : Post (Rep X.K) X.K W σ (as ++ [s.heap.objs.size + 1]) (upd (upd H s.heap.objs.size (.own (s.heap.objs.size + 1))) (s.heap.objs.size + 1) (.ins (He.ga X.K C) s.heap.objs.size []))
      (m (.obj h.length :: xs) (h ++ [.ins C []])) (fun v H2 => v = .non ∧ Q (.ref (s.heap.objs.size + 1)) H2) := by
    unfold newOf at q
    cases z : m (.obj h.length :: xs) (h ++ [.ins C []]) with
    | bad => rw [z] at q; exact q.elim
    | exc c p h' => rw [z] at q; exact ExcP.ext q x3
    | ok p h' =>
      rw [z] at q
      intro as' H' v xe rr rp
      cases p with
      | non => exact ⟨rp, q as' H' _ (x3.trans xe) rr (by unfold Rep; exact ⟨_, rfl, xe.get e0⟩)⟩
      | bl _ => exact q.elim
      | int _ => exact q.elim
      | str _ => exact q.elim
      | tup _ => exact q.elim
      | lst _ => exact q.elim
      | obj _ => exact q.elim
      | cls _ => exact q.elim
      | scr _ => exact q.elim
  refine wpAny_call (make_map (f := f) I.kIn M.makes M.init (beq_iff_eq.mp M.fn) (codeAny_mono (run_G (A := X.A.under (.builtin "type.__call__" ⟨.ref (He.ga X.K C) :: us, ks.zip ws⟩)) F (hk.room.make _ us (ks.zip ws)) (guards_make hk.gd) (I2.env0.make _ us (ks.zip ws)) tk I2
    (bb _ (.ref (s.heap.objs.size + 1)) I2.kIn) (.cons (show RelV (.ref (s.heap.objs.size + 1)) (.ref (s.heap.objs.size + 1)) from rfl) r) r2 (reps_cons (by unfold Rep; exact ⟨_, rfl, e0⟩) (rv.mono x3)) l q2) fun r s' hq => ?_))
  cases r with
  | error e => exact hq
  | ok fl =>
    cases fl with
    | ret u =>
      obtain ⟨v, H', I3, rv', ev, q3⟩ := hq
      subst ev
      exact ⟨rv', ⟨V.ref (s.heap.objs.size + 1), H', I3, rfl, q3⟩⟩
    | next => exact hq.elim
    | brk => exact hq.elim
    | cont => exact hq.elim
def eNew (C : Str) (n : Nat) (m : Fn) (a : LM) : EM := fun t h => (a t h).bind fun xs h1 => if xs.length + 1 = n then newOf C m xs h1 else .bad
theorem w_new {k n : Nat} {C : Str} {params : Arguments} {ps : List Str} {m : Fn} {e : Expr} {es : List Expr} {a : LM} {p pos : Pos} (F : HasC X.prog X.w X.K X.mg X.base C params ps k m) (hb : BindP params ps) (hk : Here X (k + 1)) (tk : Takes X W)
    (ha : PAm X W (e :: es) a) (hn : ps.length = n := by rfl) (hg : Gl X C := by rfl) (hd : (C == ("__debug__" : Str)) = false := by decide) (he : starEach (e :: es) X.env = (false, eval e X.env) :: starEach es X.env := by rfl)
    (hpl : (backTo pos (starEach es X.env)).any (·.1) = false := by rfl) : PEm X W (.Call (.Name C p) (e :: es) [] pos) (eNew C n m a) := by
  obtain ⟨f, fd, qual, body, scope, M, G, D⟩ := F.ex
  subst hn
  refine ⟨fun pins s σ H Q I q => ?_⟩
  obtain ⟨as, h, t, rh, rs, q⟩ := q
  refine wpAny_Call_Name_kw (ld_glob I hg F.at_ ?_ hd)
  refine PySem.W.callWith_K (h₀ := X.base) I.ok.mod.kin M.kp (thn (ha.run pos pins s σ H _ I ⟨as, h, t, rh, rs, Post.bind (R := Reps X.K) q⟩) fun us s1 z => ?_) he hpl
  obtain ⟨vs, H1, I1, r, as1, h1, xs, x1, r1, e1, q1⟩ := z
  refine ⟨I1.kIn, ?_⟩
  split at q1
  · rename_i l
    have z : ∀ (s : Shared) (u : Value), X.K.In s.heap → BindsTo s fd ⟨u :: us, []⟩ (ps.zip (u :: us)) := fun s u _ =>
      D.bindsA (fun kV doc pm an cdv ct us hl => hb "__init__" qual body scope kV doc pm an cdv ct us hl) _ (u :: us) (by simp only [List.length_cons]; rw [← r.length, ← e1.len, l])
    exact run_new (ks := []) (ws := []) M G hk tk I1 r z r1 e1 l q1
  · exact q1.elim
/-- C(k = v) -/
theorem w_newK1 {k : Nat} {C q1 q2 : Str} {params : Arguments} {m : Fn} {kws : List Keyword} {b : LM} {p pos : Pos} (F : HasC X.prog X.w X.K X.mg X.base C params [q1, q2] k m) (hb : BindK params [q1, q2] 1 [q2] [0, 1]) (hk : Here X (k + 1)) (tk : Takes X W)
    (hkw : PKm X W kws b) (hall : (backToKw pos (keywordEach kws X.env)).all (·.1.isSome) = true := by rfl) (hks : (backToKw pos (keywordEach kws X.env)).filterMap (·.1) = [q2] := by rfl) (hg : Gl X C := by rfl) (hd : (C == ("__debug__" : Str)) = false := by decide)
    (hpl : ((backTo pos (starEach [] X.env)).any (·.1) || (backToKw pos (keywordEach kws X.env)).any (·.1.isNone)) = false := by rfl) : PEm X W (.Call (.Name C p) [] kws pos) (eNew C 2 m b) := by
  obtain ⟨f, fd, qual, body, scope, M, G, D⟩ := F.ex
  refine ⟨fun pins s σ H Q I q => ?_⟩
  obtain ⟨as, h, t, rh, rs, q⟩ := q
  refine wpAny_Call_Name_kw (ld_glob I hg F.at_ ?_ hd)
  refine PySem.W.callWith_KW0 (h₀ := X.base) I.ok.mod.kin M.kp hall (thn (hkw.run pos pins s σ H _ I ⟨as, h, t, rh, rs, Post.bind (R := Reps X.K) q⟩) fun us s1 z => ?_) hpl
  obtain ⟨vs, H1, I1, r, as1, h1, xs, x1, r1, e1, q1'⟩ := z
  refine ⟨I1.kIn, ?_⟩
  rw [hks]
  split at q1'
  · rename_i l
    have lu : us.length = 1 := by rw [← r.length, ← e1.len]; omega
    cases us with
    | nil => simp at lu
    | cons u0 us0 =>
      cases us0 with
      | cons _ _ => simp at lu
      | nil =>
        exact run_new (ks := [q2]) (us := []) (ws := [u0]) (bs := [u0]) M G hk tk I1 r (fun s u _ => FunD.bindK D hb s [u] [u0] rfl rfl) r1 e1 (by simpa using l) q1'
  · exact q1'.elim

/-! ### slots -/
structure HasS (K : PySem.W.Frag) (C f : Str) (i : Nat) : Prop where
  cls : SlX.SCls K (He.ga K C)
  ex : ∃ p, SlX.Slot1 K (He.ga K C) f p i
def eSlot (C : Str) (i : Nat) (o : EM) : EM := fun t h => (o t h).bind fun x h1 => match insOf h1 x with
  | some (_, D, fs) => if D = C then (match fs[i]? with
    | some (some p) => .ok p h1
    | _ => .bad) else .bad
  | none => .bad
theorem w_slot {C f : Str} {i : Nat} {o : Expr} {mo : EM} {pos : Pos} (F : HasS X.K C f i) (ho : PEm X W o mo) (hbase : attributeBase o f X.env (eval o X.env) = eval o X.env := by rfl) : PEm X W (.Attribute o f pos) (eSlot C i mo) := by
  obtain ⟨p, S⟩ := F.ex
  refine ⟨fun pins s σ H Q I q => ?_⟩
  obtain ⟨as, h, t, rh, rs, q⟩ := q
  refine attr_of hbase (thn (ho.run pins s σ H _ I ⟨as, h, t, rh, rs, Post.bind (R := Rep X.K) q⟩) fun u s1 z => ?_)
  obtain ⟨v, H1, I1, rv, as1, hh1, x, x1, r1, e1, q1⟩ := z
  split at q1
  · rename_i j D' fs z
    split at q1
    · rename_i eD
      subst eD
      split at q1
      · rename_i y ey
        obtain ⟨_, _, b, dx, vs, ev, _, hsl, hf⟩ := insOf_ok r1 e1 z
        subst ev
        cases rv
        obtain ⟨w', e2, e3⟩ := hf i y ey
        exact SlX.getslot_ok I1 hsl F.cls S e2 fun u' s2 I2 ru => ⟨w', H1, I2, ru, Post.done q1 (Ext.refl _ _) r1 e3⟩
      · exact q1.elim
    · exact q1.elim
  · exact q1.elim

/-! ### targets -/
abbrev GM := P → AM.Loc → AH → Option (AM.Loc × AH)
def PostG (K : PySem.W.Frag) (as : List Addr) (H : Hp) (o : Option (AM.Loc × AH)) (Q : L2.St → Hp → Prop) : Prop := match o with
  | some (t, h) => ∀ as' H' s', Ext as H as' H' → RelH K as' h H' → RepS K as' H' t s' → Q s' H'
  | none => False
theorem PostG.ext {K : PySem.W.Frag} {as as' : List Addr} {H H' : Hp} {o : Option (AM.Loc × AH)} {Q : L2.St → Hp → Prop} (q : PostG K as H o Q) (x : Ext as H as' H') : PostG K as' H' o Q := by
  cases o with
  | none => exact q
  | some th => exact fun a2 H2 s2 x2 => q a2 H2 s2 (x.trans x2)
theorem PostG.mono {K : PySem.W.Frag} {as : List Addr} {H : Hp} {o : Option (AM.Loc × AH)} {Q Q' : L2.St → Hp → Prop} (q : PostG K as H o Q) (f : ∀ s H', Q s H' → Q' s H') : PostG K as H o Q' := by
  cases o with
  | none => exact q
  | some th => exact fun a2 H2 s2 x2 r e => f _ _ (q a2 H2 s2 x2 r e)
theorem PostG.bind {K : PySem.W.Frag} {as : List Addr} {H : Hp} {o : Option (AM.Loc × AH)} {f : AM.Loc × AH → Option (AM.Loc × AH)} {Q : L2.St → Hp → Prop} (q : PostG K as H (o.bind f) Q) :
    PostG K as H o (fun s1 H1 => ∃ as1 h1 t1, Ext as H as1 H1 ∧ RelH K as1 h1 H1 ∧ RepS K as1 H1 t1 s1 ∧ PostG K as1 H1 (f (t1, h1)) Q) := by
  cases o with
  | none => exact q
  | some th => exact fun a2 H2 s2 x2 r e => ⟨a2, th.2, th.1, x2, r, e, PostG.ext (o := f th) q x2⟩
def TGm (K : PySem.W.Frag) (m : GM) : TG := fun v s H Q => ∃ as h t p, RelH K as h H ∧ RepS K as H t s ∧ Rep K as H p v ∧ PostG K as H (m p t h) Q
abbrev PGm (X : Cx) (tg : Expr) (m : GM) : Prop := PG X tg (TGm X.K m)
abbrev GMs := List P → AM.Loc → AH → Option (AM.Loc × AH)
def TGms (K : PySem.W.Frag) (m : GMs) : TGs := fun vs s H Q => ∃ as h t ps, RelH K as h H ∧ RepS K as H t s ∧ Reps K as H ps vs ∧ PostG K as H (m ps t h) Q
abbrev PGms (X : Cx) (tg : List Expr) (m : GMs) : Prop := PGs X tg (TGms X.K m)
theorem PG_imp {tg : Expr} {t t' : TG} (h : PG X tg t) (i : ∀ v s H Q, t' v s H Q → t v s H Q) : PG X tg t' := ⟨fun pins s σ H v u Q I r q => h.run pins s σ H v u Q I r (i _ _ _ _ q)⟩
theorem PGs_imp {tg : List Expr} {t t' : TGs} (h : PGs X tg t) (i : ∀ v s H Q, t' v s H Q → t v s H Q) : PGs X tg t' := ⟨fun pins s σ H v u Q I r q => h.run pins s σ H v u Q I r (i _ _ _ _ q)⟩
theorem RepS.set {K : PySem.W.Frag} {as : List Addr} {H : Hp} {t : AM.Loc} {s : L2.St} (r : RepS K as H t s) {p : P} {v : V} (e : Rep K as H p v) (i : Nat) : RepS K as H (t.set i (some p)) (s.set i (some v)) := by
  refine ⟨by simp [r.1], fun j q z => ?_⟩
  by_cases hj : i = j
  · subst hj
    by_cases hl : i < t.length
    · rw [List.getElem?_set_self hl] at z
      cases z
      exact ⟨v, List.getElem?_set_self (by rw [← r.1]; exact hl), e⟩
    · rw [List.getElem?_eq_none (by simpa using hl)] at z
      cases z
  · rw [List.getElem?_set_ne hj] at z
    rw [List.getElem?_set_ne hj]
    exact r.2 j q z
def gN (i : Nat) : GM := fun p t h => some (t.set i (some p), h)
theorem wg_name (i : Nat) {x : Str} {pos : Pos} (hN : X.N.Nodup) (hi : X.N[i]? = some x := by rfl) (hx : L2.Loc X.env.scope x := by first | exact Or.inl rfl | exact Or.inr rfl) (hf : X.fn x = true ∨ X.env.scope.names.lookup x = some .local := by first | exact .inl rfl | exact .inr rfl | assumption) : PGm X (.Name x pos) (gN i) := by
  refine PG_imp (pg_name (i := i) hN hi hx hf) fun v s H Q q => ?_
  obtain ⟨as, h, t, p, rh, rs, rp, q⟩ := q
  exact q as H _ (Ext.refl _ _) rh (rs.set rp i)
def gsN : GMs := fun ps t h => match ps with
  | [] => some (t, h)
  | _ => none
def gsC (g : GM) (r : GMs) : GMs := fun ps t h => match ps with
  | p :: ps => (g p t h).bind fun th => r ps th.1 th.2
  | _ => none
theorem wgs_nil : PGms X [] gsN := PGs_imp pgs_nil fun vs s H Q q => by
  obtain ⟨as, h, t, ps, rh, rs, rp, q⟩ := q
  cases ps with
  | nil => exact ⟨reps_inv0 rp, q as H s (Ext.refl _ _) rh rs⟩
  | cons _ _ => exact q.elim
theorem wgs_cons {e : Expr} {es : List Expr} {g : GM} {r : GMs} (h1 : PGm X e g) (h2 : PGms X es r) (hs : (assignEach (e :: es) X.env).map (·.2) = assign e X.env :: (assignEach es X.env).map (·.2) := by rfl) : PGms X (e :: es) (gsC g r) := by
  refine PGs_imp (pgs_cons h1 h2 hs) fun vs s H Q q => ?_
  obtain ⟨as, h, t, ps, rh, rs, rp, q⟩ := q
  cases ps with
  | nil => exact q.elim
  | cons p ps =>
    obtain ⟨v, vr, rfl, r1, r2⟩ := reps_inv rp
    refine ⟨v, vr, rfl, as, h, t, p, rh, rs, r1, (PostG.bind (o := g p t h) q).mono fun s' H' z => ?_⟩
    obtain ⟨as1, h1, t1, x1, r1', e1, q3⟩ := z
    exact ⟨as1, h1, t1, ps, r1', e1, r2.mono x1, q3⟩
/-- a tuple's parts to as many targets -/
def gT (n : Nat) (r : GMs) : GM := fun p t h => match p with
  | .tup xs => if xs.length = n then r xs t h else none
  | _ => none
theorem wg_tup {es : List Expr} {k : Nat} {pos : Pos} {r : GMs} {n : Nat} (hc : X.calm = true) (hr : PGms X es r) (hn : (assignEach es X.env).length = n := by rfl) (hst : (assignEach es X.env).findIdx? (·.1) = none := by rfl) : PGm X (.Tuple es k pos) (gT n r) := by
  refine PG_imp (pg_tup hc hr hn hst) fun v s H Q q => ?_
  obtain ⟨as, h, t, p, rh, rs, rp, q⟩ := q
  unfold gT at q
  split at q
  · rename_i xs
    unfold Rep at rp
    obtain ⟨a, vs, e1, e2, e3⟩ := rp
    split at q
    · rename_i l
      exact ⟨a, vs, e1, e2.sq, by rw [← e3.len, l], as, h, t, xs, rh, rs, e3, q⟩
    · exact q.elim
  · exact q.elim
/-- a list's parts -/
def gL (n : Nat) (r : GMs) : GM := fun p t h => match p with
  | .lst xs => if xs.length = n then r xs t h else none
  | .obj i => match h[i]? with
    | some (.lst xs) => if xs.length = n then r xs t h else none
    | _ => none
  | _ => none
theorem wg_lst {es : List Expr} {k : Nat} {pos : Pos} {r : GMs} {n : Nat} (hc : X.calm = true) (hr : PGms X es r) (hn : (assignEach es X.env).length = n := by rfl) (hst : (assignEach es X.env).findIdx? (·.1) = none := by rfl) : PGm X (.Tuple es k pos) (gL n r) := by
  refine PG_imp (pg_unl hc hr hn hst) fun v s H Q q => ?_
  obtain ⟨as, h, t, p, rh, rs, rp, q⟩ := q
  unfold gL at q
  split at q
  · rename_i xs
    unfold Rep at rp
    obtain ⟨a, vs, e1, e0, e2, e3⟩ := rp
    split at q
    · rename_i l
      exact ⟨a, vs, e1, .of e2, by rw [← e3.len, l], as, h, t, xs, rh, rs, e3, q⟩
    · exact q.elim
  · rename_i i
    unfold Rep at rp
    obtain ⟨a, e1, e2⟩ := rp
    split at q
    · rename_i xs z
      split at q
      · rename_i l
        obtain ⟨vs, e3, e4⟩ := rh.obj z e2
        exact ⟨a, vs, e1, .of e3, by rw [← e4.len, l], as, h, t, xs, rh, rs, e4, q⟩
      · exact q.elim
    · exact q.elim
  · exact q.elim

/-! ### o[i] = v -/
def keyOf : P → Option Key
  | .int i => some (.inl i)
  | .str x => some (.inr x)
  | _ => none
theorem keyOf_ok {K : PySem.W.Frag} {as : List Addr} {H : Hp} {p : P} {v : V} {k : Key} (r : Rep K as H p v) (e : keyOf p = some k) : v = kV k := by
  unfold keyOf at e
  split at e
  · cases e; exact r
  · cases e; exact r
  · cases e
def putP (kvs : List (Key × P)) (k : Key) (p : P) : List (Key × P) := if kvs.any (fun kv => decide (kv.1 = k)) then kvs.map fun kv => if kv.1 = k then (kv.1, p) else kv else kvs ++ [(k, p)]
def getP (kvs : List (Key × P)) (k : Key) : Option P := (kvs.find? fun kv => decide (kv.1 = k)).map (·.2)
def setItemP (o i v : P) (h : AH) : Option AH := match o with
  | .obj n => match h[n]? with
    | some (.lst xs) => (match i with
      | .int k => (ixN xs.length k).map fun j => h.set n (.lst (xs.set j v))
      | _ => none)
    | some (.dct kvs) => (match keyOf i with
      | some k => if kvs.length < 16777216 then some (h.set n (.dct (putP kvs k v))) else none
      | none => none)
    | _ => none
  | _ => none
/-- the pairs of a dict -/
def RepK (K : PySem.W.Frag) (as : List Addr) (H : Hp) (kvs : List (Key × P)) (ws : List (Key × V)) : Prop := ws.map (·.1) = kvs.map (·.1) ∧ Reps K as H (kvs.map (·.2)) (ws.map (·.2))
theorem repK_nil {K : PySem.W.Frag} {as : List Addr} {H : Hp} : RepK K as H [] [] := ⟨rfl, reps_nil⟩
theorem repK_cons {K : PySem.W.Frag} {as : List Addr} {H : Hp} {kv : Key × P} {kvs : List (Key × P)} {ws : List (Key × V)} (h : RepK K as H (kv :: kvs) ws) : ∃ v r, ws = (kv.1, v) :: r ∧ Rep K as H kv.2 v ∧ RepK K as H kvs r := by
  cases ws with
  | nil =>
    have z := h.1
    simp at z
  | cons w ws =>
    obtain ⟨z1, z2⟩ := h
    simp only [List.map_cons, List.cons.injEq] at z1
    obtain ⟨v, r, e1, e2, e3⟩ := reps_inv z2
    simp only [List.map_cons, List.cons.injEq] at e1
    obtain ⟨e4, e5⟩ := e1
    refine ⟨w.2, ws, ?_, by rw [e4]; exact e2, z1.2, by rw [e5]; exact e3⟩
    rw [← z1.1]
theorem repK_mk {K : PySem.W.Frag} {as : List Addr} {H : Hp} {kv : Key × P} {kvs : List (Key × P)} {v : V} {ws : List (Key × V)} (e : Rep K as H kv.2 v) (h : RepK K as H kvs ws) : RepK K as H (kv :: kvs) ((kv.1, v) :: ws) :=
  ⟨by simp [h.1], reps_cons e h.2⟩
theorem RepK.mono {K : PySem.W.Frag} {as as' : List Addr} {H H' : Hp} (x : Ext as H as' H') {kvs : List (Key × P)} {ws : List (Key × V)} (h : RepK K as H kvs ws) : RepK K as' H' kvs ws := ⟨h.1, h.2.mono x⟩
theorem RepK.len {K : PySem.W.Frag} {as : List Addr} {H : Hp} {kvs : List (Key × P)} {ws : List (Key × V)} (h : RepK K as H kvs ws) : kvs.length = ws.length := by
  have z := congrArg List.length h.1
  simpa using z.symm
theorem RepK.any {K : PySem.W.Frag} {as : List Addr} {H : Hp} {kvs : List (Key × P)} {ws : List (Key × V)} (h : RepK K as H kvs ws) (k : Key) : (ws.any fun kv => decide (kv.1 = k)) = kvs.any fun kv => decide (kv.1 = k) := by
  have z : ∀ {α : Type} (l : List (Key × α)), (l.any fun kv => decide (kv.1 = k)) = (l.map (·.1)).any fun q => decide (q = k) := fun l => by
    rw [List.any_map]
    rfl
  rw [z, z, h.1]
theorem RepK.get {K : PySem.W.Frag} {as : List Addr} {H : Hp} (k : Key) : ∀ {kvs : List (Key × P)} {ws : List (Key × V)}, RepK K as H kvs ws → (∀ p, getP kvs k = some p → ∃ v, valV ws k = some v ∧ Rep K as H p v) ∧ (getP kvs k = none → valV ws k = none)
  | [], ws, h => by
    have z : ws = [] := by
      have := h.len
      cases ws with
      | nil => rfl
      | cons _ _ => simp at this
    subst z
    exact ⟨fun p e => by simp [getP] at e, fun _ => rfl⟩
  | kv :: kvs, ws, h => by
    obtain ⟨v, r, rfl, e1, e2⟩ := repK_cons h
    have ih := RepK.get k e2
    by_cases hk : kv.1 = k
    · refine ⟨fun p e => ?_, fun e => ?_⟩
      · have z : getP (kv :: kvs) k = some kv.2 := by simp [getP, hk]
        rw [z] at e
        cases e
        exact ⟨v, valV_pos hk, e1⟩
      · simp [getP, hk] at e
    · have z : getP (kv :: kvs) k = getP kvs k := by simp [getP, hk]
      rw [z, valV_neg (p := (kv.1, v)) hk]
      exact ih
theorem RepK.put {K : PySem.W.Frag} {as : List Addr} {H : Hp} (k : Key) {p : P} {v : V} (e : Rep K as H p v) {kvs : List (Key × P)} {ws : List (Key × V)} (h : RepK K as H kvs ws) : RepK K as H (putP kvs k p) (putK ws k v) := by
  unfold putP putK
  rw [h.any k]
  split
  · have z : ∀ {kvs : List (Key × P)} {ws : List (Key × V)}, RepK K as H kvs ws → RepK K as H (kvs.map fun kv => if kv.1 = k then (kv.1, p) else kv) (ws.map fun kv => if kv.1 = k then (kv.1, v) else kv) := by
      intro kvs
      induction kvs with
      | nil =>
        intro ws h
        have q := h.len
        cases ws with
        | nil => exact repK_nil
        | cons _ _ => simp at q
      | cons kv kvs ih =>
        intro ws h
        obtain ⟨u, r, rfl, e1, e2⟩ := repK_cons h
        by_cases hk : kv.1 = k
        · simp only [List.map_cons, if_pos hk]
          exact repK_mk (kv := (kv.1, p)) e (ih e2)
        · simp only [List.map_cons, if_neg hk]
          exact repK_mk e1 (ih e2)
    exact z h
  · exact ⟨by simp [h.1], by simpa using h.2.app (reps_cons e reps_nil)⟩
def TSetA (K : PySem.W.Frag) : TSet := fun o i v H Q => ∃ as h p q r h', RelH K as h H ∧ Rep K as H p o ∧ Rep K as H q i ∧ Rep K as H r v ∧ setItemP p q r h = some h' ∧ ∀ H', Ext as H as H' → RelH K as h' H' → Q H'
theorem pset_any {k : Nat} (hk : Here X k) : PSet X (TSetA X.K) := by
  intro pins s σ H o i v ov iv u Q I ro ri rv hq
  obtain ⟨as, h, p, q, r, h', rh, rp, rq, rr, e, fin⟩ := hq
  unfold setItemP at e
  split at e
  · rename_i n
    unfold Rep at rp
    obtain ⟨a, rfl, ea⟩ := rp
    split at e
    · rename_i xs z
      obtain ⟨vs, e1, e2⟩ := rh.obj z ea
      split at e
      · rename_i kk
        cases ej : ixN xs.length kk with
        | none => rw [ej] at e; cases e
        | some j =>
          rw [ej] at e
          cases e
          rw [e2.len] at ej
          refine set_list pins s σ H _ _ _ _ _ _ Q I ro ri rv ⟨a, vs, kk, j, rfl, rq, e1, ej, ?_⟩
          have xe := Ext.put (o := .lst (vs.set j v)) rh ea
          exact fin _ xe (rh.put ea ⟨_, upd_same, (e2.mono xe).set (rr.mono xe) j⟩)
      · cases e
    · rename_i kvs z
      obtain ⟨ws, e1, e2⟩ := rh.obj z ea
      split at e
      · rename_i kk hkk
        split at e
        · rename_i hl
          cases e
          have ev := keyOf_ok rq hkk
          subst ev
          cases ro
          have xe := Ext.put (o := .dK (putK ws kk v)) rh ea
          have e3 : RepK X.K as H kvs ws := e2
          refine d_setItem (hu_of hk.room) I (DPut.k (k := kk) (v := v) e1 (by rw [sizeLine_eq, ← e3.len]; exact hl)) ri rv fun s' I' => ⟨_, I', fin _ xe (rh.put ea ?_)⟩
          have z2 := (e3.mono xe).put kk (rr.mono xe)
          exact ⟨_, upd_same, z2.1, z2.2⟩
        · cases e
      · cases e
    · cases e
  · cases e
end
end AM

/-! AM6: stores into slots and places; statements; loops. -/
namespace AM
open PySem PySem.Spec PyProof.Rows L2
open Classical in
noncomputable section
variable {X : Cx} {W : WX}
/-- nothing is raised -/
abbrev W0 : WX := fun _ _ _ _ => False
theorem takes_none : Takes X W0 := fun u s' x => by
  obtain ⟨_, _, _, _, _, _, _, _, _, _, _, _, _, _, _, _, no⟩ := x
  exact no.elim

/-! ### slots -/
def putSl (i : Nat) (p : P) (fs : List (Option P)) : List (Option P) := (fs ++ List.replicate (i + 1 - fs.length) none).set i (some p)
theorem RelH.slot {K : PySem.W.Frag} {as : List Addr} {h : AH} {H : Hp} (r : RelH K as h H) {n i : Nat} {a dx : Addr} {C : Str} {fs : List (Option P)} {vs : List (Option V)} {p : P} {v : V} (e : as[n]? = some a)
    (hd : (∃ u, H dx = some (.own u)) ∨ H dx = some (.xd [])) (ne : dx ≠ a) (hf : ∀ (i : Nat) (p : P), fs[i]? = some (some p) → ∃ v, vs[i]? = some (some v) ∧ Rep K as H p v) (hp : Rep K as H p v) :
    Ext as H as (SlX.slH H a (He.ga K C) dx (SlX.putS i v vs)) ∧ RelH K as (h.set n (.ins C (putSl i p fs))) (SlX.slH H a (He.ga K C) dx (SlX.putS i v vs)) := by
  have ma : a ∈ as := List.mem_of_getElem? e
  have x : Ext as H as (SlX.slH H a (He.ga K C) dx (SlX.putS i v vs)) := by
    refine ⟨⟨[], by simp⟩, fun b o q m no => ⟨?_, m⟩⟩
    have ba : b ≠ a := fun z => m (z ▸ ma)
    by_cases bd : b = dx
    · subst bd
      rcases hd with ⟨u, z⟩ | z
      · rw [q] at z
        exact absurd (Option.some.inj z) (no u)
      · rw [q] at z
        rw [Option.some.inj z]
        unfold SlX.slH
        rw [upd_ne ne, upd_same]
    · rw [SlX.slH_ne ba bd]
      exact q
  refine ⟨x, by simp [r.len], r.nd, fun m u z => ?_⟩
  by_cases hn : n = m
  · subst hn
    by_cases hl : n < h.length
    · rw [List.getElem?_set_self hl] at z
      cases z
      refine ⟨a, e, dx, _, SlX.slH_slt ne, fun j q y => ?_⟩
      by_cases hj : i = j
      · subst hj
        have y' : (putSl i p fs)[i]? = some (some p) := by
          unfold putSl
          exact List.getElem?_set_self (by simp only [List.length_append, List.length_replicate]; omega)
        rw [y'] at y
        cases y
        exact ⟨v, SlX.putS_get i v vs, hp.mono x⟩
      · have y' : fs[j]? = some (some q) := by
          unfold putSl at y
          rw [List.getElem?_set_ne hj] at y
          by_cases hj : j < fs.length
          · rw [List.getElem?_append_left hj] at y
            exact y
          · rw [List.getElem?_append_right (by omega), List.getElem?_replicate] at y
            split at y <;> cases y
        obtain ⟨w, e1, e2⟩ := hf j q y'
        exact ⟨w, (SlX.putS_ne (Ne.symm hj)).mpr e1, e2.mono x⟩
    · rw [List.getElem?_eq_none (by simpa using hl)] at z
      cases z
  · rw [List.getElem?_set_ne hn] at z
    obtain ⟨b, q1, q2⟩ := r.at_ m u z
    have mb : b ∈ as := List.mem_of_getElem? q1
    refine ⟨b, q1, q2.mono x (SlX.slH_ne ?_ ?_) r.xds⟩
    · intro z
      subst z
      exact hn ((List.getElem?_inj (List.getElem?_eq_some_iff.mp e).1 r.nd).mp (e.trans q1.symm))
    · intro z
      subst z
      rcases hd with ⟨u, z⟩ | z
      · exact (r.live mb).2.2.2 u z
      · exact (r.live mb).2.2.1 _ z
def setSlotP (C : Str) (i : Nat) (o v : P) (h : AH) : Option AH := match insOf h o with
  | some (n, D, fs) => if D = C then some (h.set n (.ins C (putSl i v fs))) else none
  | none => none
/-- o.f = , as a target -/
def gSl (C : Str) (i : Nat) (o : EM) : GM := fun p t h => match o t h with
  | .ok x h1 => (setSlotP C i x p h1).map fun h2 => (t, h2)
  | _ => none
theorem slot_store {C f : Str} {i : Nat} {pins : List (Addr × Obj)} {σ : L2.St} {H : Hp} {s : Shared} {as : List Addr} {h h' : AH} {x p : P} {vx v : V} {ux u : Value} {Q : Unit → Shared → Prop} {A : Around} {E : Value → Shared → Prop} (F : HasS X.K C f i) (I : Inv X pins σ H s) (rh : RelH X.K as h H) (rx : Rep X.K as H x vx) (rp : Rep X.K as H p v)
    (ex : RelV vx ux) (ev : RelV v u) (e : setSlotP C i x p h = some h') (q : ∀ s' H', Inv X pins σ H' s' → Ext as H as H' → RelH X.K as h' H' → Q () s') : wpAny (model X.prog X.w) A (setAttr ux f u) Q E s := by
  obtain ⟨p0, S⟩ := F.ex
  unfold setSlotP at e
  split at e
  · rename_i n D fs z
    split at e
    · rename_i eD
      subst eD
      cases e
      obtain ⟨_, _, b, dx, vs, evx, eb, hsl, hf⟩ := insOf_ok rh rx z
      subst evx
      cases ex
      refine SlX.setslot_ok I hsl F.cls S ev fun s' I' => ?_
      have ne := (SlX.slt_at I hsl).1
      have hd : (∃ u, H dx = some (.own u)) ∨ H dx = some (.xd []) := by
        rcases hsl with ⟨z1, _⟩ | ⟨_, z2⟩
        · obtain ⟨_, _, _, _, _, z3⟩ := ins_get I.hok z1
          exact .inl ⟨_, z3⟩
        · exact .inr z2
      obtain ⟨x1, r1⟩ := RelH.slot (C := D) (i := i) rh eb hd ne hf rp
      exact q s' _ I' x1 r1
    · cases e
  · cases e
theorem wg_slot {C f : Str} {i : Nat} {o : Expr} {mo : EM} {pos : Pos} (F : HasS X.K C f i) (ho : PEm X W0 o mo) : PGm X (.Attribute o f pos) (gSl C i mo) := by
  refine ⟨fun pins s σ H v u Q I r q => ?_⟩
  obtain ⟨as, h, t, p, rh, rs, rp, q⟩ := q
  rw [assign_Attribute]
  unfold gSl at q
  cases z : mo t h with
  | bad => rw [z] at q; exact q.elim
  | exc _ _ _ => rw [z] at q; exact q.elim
  | ok x h1 =>
    rw [z] at q
    dsimp only at q
    refine wpAny_bind (wpAny_holding (thn (ho.run pins s σ H (fun vx H1 => ∃ as1, Ext as H as1 H1 ∧ RelH X.K as1 h1 H1 ∧ Rep X.K as1 H1 x vx) I ⟨as, h, t, rh, rs, by rw [z]; exact fun a2 H2 b x2 r2 e2 => ⟨a2, x2, r2, e2⟩⟩) fun ov s1 y => ?_))
    obtain ⟨vx, H1, I1, rv, as1, x1, r1, e1⟩ := y
    refine wpAny_bind (wpAny_standAt ?_)
    cases y : setSlotP C i x p h1 with
    | none => rw [y] at q; exact q.elim
    | some h2 =>
      rw [y] at q
      refine wpAny_bind (wpAny_holding (slot_store F I1 r1 e1 (rp.mono x1) rv r y fun s2 H2 I2 x2 r2 => ?_))
      exact wpAny_release ⟨σ, H2, I2, q as1 H2 σ (x1.trans x2) r2 (rs.mono (x1.trans x2))⟩
/-- o[i] = , as a target -/
def gS (o i : EM) : GM := fun p t h => match o t h with
  | .ok x h1 => (match i t h1 with
    | .ok y h2 => (setItemP x y p h2).map fun h3 => (t, h3)
    | _ => none)
  | _ => none
theorem wg_sub {k : Nat} {o i : Expr} {mo mi : EM} {pos : Pos} (hk : Here X k) (ho : PEm X W0 o mo) (hi : PEm X W0 i mi)
    (ha : ∀ v, assign (.Subscript o i pos) X.env v = (do
      let ov ← holding [v] (eval o X.env)
      let iv ← holding [v, ov] (eval i X.env)
      standAt pos
      holding [v, ov, iv] (setItem ov iv v)
      release [v, ov, iv] []) := by intro _; rfl) : PGm X (.Subscript o i pos) (gS mo mi) := by
  refine PG_imp (pg_sub ho hi (pset_any hk) ha) fun v s H Q q => ?_
  obtain ⟨as, h, t, p, rh, rs, rp, q⟩ := q
  unfold gS at q
  cases z : mo t h with
  | bad => rw [z] at q; exact q.elim
  | exc _ _ _ => rw [z] at q; exact q.elim
  | ok x h1 =>
    rw [z] at q
    refine ⟨as, h, t, rh, rs, ?_⟩
    rw [z]
    intro as1 H1 vx x1 r1 e1
    dsimp only at q
    cases y : mi t h1 with
    | bad => rw [y] at q; exact q.elim
    | exc _ _ _ => rw [y] at q; exact q.elim
    | ok yi h2 =>
      rw [y] at q
      refine ⟨as1, h1, t, r1, rs.mono x1, ?_⟩
      rw [y]
      intro as2 H2 vi x2 r2 e2
      dsimp only at q
      cases w : setItemP x yi p h2 with
      | none => rw [w] at q; exact q.elim
      | some h3 =>
        rw [w] at q
        exact ⟨as2, h2, x, yi, p, h3, r2, e1.mono x2, e2, rp.mono (x1.trans x2), w, fun H3 x3 r3 => q as2 H3 s ((x1.trans x2).trans x3) r3 (rs.mono ((x1.trans x2).trans x3))⟩

/-! ### statements -/
def sNx : SM := fun t h => .nx t h
def sQ (a b : SM) : SM := fun t h => (a t h).seq b
theorem ws_nil : PSsm X W [] sNx := PSs_imp pss_nil fun D s H q => by
  obtain ⟨as, h, t, rh, rs, q⟩ := q
  exact q as H s (Ext.refl _ _) rh rs
theorem ws_one {st : Stmt} {m : SM} (h : PSm X W st m) : PSsm X W [st] m := pss_one h
theorem ws_cons {st : Stmt} {sts : List Stmt} {a b : SM} (h1 : PSm X W st a) (h2 : PSsm X W sts b) : PSsm X W (st :: sts) (sQ a b) := by
  refine PSs_imp (pss_cons h1 h2) fun D s H q => ?_
  obtain ⟨as, h, t, rh, rs, q⟩ := q
  refine ⟨as, h, t, rh, rs, ?_⟩
  unfold sQ at q
  cases z : a t h with
  | nx t1 h1 =>
    rw [z] at q
    exact fun as' H' s' x r e => ⟨as', h1, t1, r, e, PostS.ext (o := b t1 h1) q x⟩
  | rt p h1 => rw [z] at q; exact q
  | bk t1 h1 => rw [z] at q; exact q
  | ct t1 h1 => rw [z] at q; exact q
  | exc c p t1 h1 => rw [z] at q; exact q
  | bad => rw [z] at q; exact q
/-- from a value on -/
theorem PostS.toS {α β : Type} {R : List Addr → Hp → α → β → Prop} {K : PySem.W.Frag} {s : L2.St} {as : List Addr} {H : Hp} {o : Out α} {t : AM.Loc} {f : α → AH → OutS} {D : Ends} (rs : RepS K as H t s) (q : PostS K W as H (o.toS t f) D) :
    Post R K W s as H o (fun b H1 => ∃ as1 h1 a, Ext as H as1 H1 ∧ RelH K as1 h1 H1 ∧ R as1 H1 a b ∧ PostS K W as1 H1 (f a h1) D) := by
  cases o with
  | ok a h => exact fun a2 H2 b x2 r e => ⟨a2, h, a, x2, r, e, PostS.ext (o := f a h) q x2⟩
  | exc c p h => exact fun a2 H2 d w x r e1 e2 => q a2 H2 s d w x r (rs.mono x) e1 e2
  | bad => exact q
def sE (m : EM) : SM := fun t h => (m t h).toS t fun _ h1 => .nx t h1
theorem w_expr {e : Expr} {m : EM} {pos : Pos} (he : PEm X W e m) (hs : swapsWith e none pos.line X.env = pure false := by rfl) : PSm X W (.Expr e pos) (sE m) := by
  refine PS_imp (ps_expr he hs) fun D s H q => ?_
  obtain ⟨as, h, t, rh, rs, q⟩ := q
  refine ⟨as, h, t, rh, rs, (PostS.toS (R := Rep X.K) rs q).mono fun b H1 z => ?_⟩
  obtain ⟨as1, h1, a, x1, r1, e1, q1⟩ := z
  exact q1 as1 H1 s (Ext.refl _ _) r1 (rs.mono x1)
def sR (m : EM) : SM := fun t h => (m t h).toS t fun p h1 => .rt p h1
theorem w_ret {e : Expr} {m : EM} {pos : Pos} (he : PEm X W e m) : PSm X W (.Return (some e) pos) (sR m) := by
  refine PS_imp (ps_ret he) fun D s H q => ?_
  obtain ⟨as, h, t, rh, rs, q⟩ := q
  refine ⟨as, h, t, rh, rs, (PostS.toS (R := Rep X.K) rs q).mono fun b H1 z => ?_⟩
  obtain ⟨as1, h1, a, x1, r1, e1, q1⟩ := z
  exact q1 as1 H1 b (Ext.refl _ _) r1 e1
def sRN : SM := fun _ h => .rt .non h
theorem w_retN {pos : Pos} : PSm X W (.Return none pos) sRN := PS_imp ps_retN fun D s H q => by
  obtain ⟨as, h, t, rh, rs, q⟩ := q
  exact q as H .non (Ext.refl _ _) rh rfl
theorem w_pass {pos : Pos} : PSm X W (.Pass pos) sNx := PS_imp ps_pass fun D s H q => by
  obtain ⟨as, h, t, rh, rs, q⟩ := q
  exact q as H s (Ext.refl _ _) rh rs
def sBk : SM := fun t h => .bk t h
theorem w_break {pos : Pos} : PSm X W (.Break pos) sBk := PS_imp ps_break fun D s H q => by
  obtain ⟨as, h, t, rh, rs, q⟩ := q
  exact q as H s (Ext.refl _ _) rh rs
def sCt : SM := fun t h => .ct t h
theorem w_continue {pos : Pos} : PSm X W (.Continue pos) sCt := PS_imp ps_continue fun D s H q => by
  obtain ⟨as, h, t, rh, rs, q⟩ := q
  exact q as H s (Ext.refl _ _) rh rs
def sBad : SM := fun _ _ => .bad
theorem w_never {st : Stmt} : PSm X W st sBad := PS_imp (ps_never (st := st)) fun D s H q => by
  obtain ⟨as, h, t, rh, rs, q⟩ := q
  exact q.elim
theorem ws_never {sts : List Stmt} : PSsm X W sts sBad := PSs_imp (pss_never (sts := sts)) fun D s H q => by
  obtain ⟨as, h, t, rh, rs, q⟩ := q
  exact q.elim
def sIf (c : TM) (a b : SM) : SM := fun t h => (c t h).toS t fun k h1 => if k = true then a t h1 else b t h1
theorem w_if {c : Expr} {p q : List Stmt} {mc : TM} {ma mb : SM} {pos : Pos} (hc : PTm X W c mc) (ha : PSsm X W p ma) (hb : PSsm X W q mb) : PSm X W (.If c p q pos) (sIf mc ma mb) := by
  refine PS_imp (ps_if hc ha hb) fun D s H q => ?_
  obtain ⟨as, h, t, rh, rs, q⟩ := q
  refine ⟨as, h, t, rh, rs, (PostS.toS (R := fun _ _ a b => a = b) rs q).mono fun k H1 z => ?_⟩
  obtain ⟨as1, h1, a, x1, r1, e1, q1⟩ := z
  subst e1
  cases a with
  | true => exact ⟨as1, h1, t, r1, rs.mono x1, q1⟩
  | false => exact ⟨as1, h1, t, r1, rs.mono x1, q1⟩
/-- target = value -/
def sA (m : EM) (g : GM) : SM := fun t h => (m t h).toS t fun p h1 => match g p t h1 with
  | some th => .nx th.1 th.2
  | none => .bad
theorem asg_post {K : PySem.W.Frag} {as : List Addr} {H : Hp} {o : Option (AM.Loc × AH)} {D : Ends} (q : PostS K W as H (match o with
  | some th => .nx th.1 th.2
  | none => .bad) D) : PostG K as H o D.nx := by
  cases o with
  | none => exact q
  | some th => exact q
theorem w_asg {tg e : Expr} {m : EM} {g : GM} {pos : Pos} (he : PEm X W e m) (hg : PGm X tg g) (hs : swapsWithSole [tg] e pos.line X.env = pure false := by rfl) (hw : swappedStores [tg] e X.env = pure none := by rfl)
    (h1 : (assignEach [tg] X.env).map (·.2) = [assign tg X.env] := by rfl) : PSm X W (.Assign [tg] e pos) (sA m g) := by
  refine PS_imp (ps_asg he hg hs hw h1) fun D s H q => ?_
  obtain ⟨as, h, t, rh, rs, q⟩ := q
  refine ⟨as, h, t, rh, rs, (PostS.toS (R := Rep X.K) rs q).mono fun b H1 z => ?_⟩
  obtain ⟨as1, h1, a, x1, r1, e1, q1⟩ := z
  exact ⟨as1, h1, t, a, r1, rs.mono x1, e1, asg_post q1⟩
end
end AM

/-! AM7: data, truth, comparisons, tests. -/
namespace AM
open PySem PySem.Spec PyProof.Rows L2
noncomputable section
variable {X : Cx} {W : WX}

/-! ### data -/
mutual
def dataP (g : Nat → Option PyData) : P → Option PyData
  | .non => some .none
  | .bl b => some (.bool b)
  | .int i => some (.int i)
  | .str x => some (.str x)
  | .tup xs => (datasP g xs).map .tuple
  | .lst xs => (datasP g xs).map .list
  | .obj n => g n
  | .cls _ => none
  | .scr _ => none
def datasP (g : Nat → Option PyData) : List P → Option (List PyData)
  | [] => some []
  | p :: ps => match dataP g p, datasP g ps with
    | some d, some ds => some (d :: ds)
    | _, _ => none
end
/-- what the n-th object is, lists within lists to a depth -/
def resolve (h : AH) : Nat → Nat → Option PyData
  | 0, _ => none
  | k + 1, n => match h[n]? with
    | some (.lst xs) => (datasP (resolve h k) xs).map .list
    | _ => none
def dat (h : AH) (p : P) : Option PyData := dataP (resolve h 4) p
mutual
theorem dp_of {K : PySem.W.Frag} {as : List Addr} {H : Hp} {g : Nat → Option PyData} (hg : ∀ n a d, as[n]? = some a → g n = some d → Dp K H (.ref a) d) : ∀ {p : P} {v : V} {d : PyData}, Rep K as H p v → dataP g p = some d → Dp K H v d
  | .non, _, _, r, e => by
    cases e
    cases r
    exact .non
  | .bl b, _, _, r, e => by
    cases e
    cases r
    exact .bl b
  | .int i, _, _, r, e => by
    cases e
    cases r
    exact .int i
  | .str x, _, _, r, e => by
    cases e
    cases r
    exact .str x
  | .tup xs, _, _, r, e => by
    unfold Rep at r
    obtain ⟨a, vs, rfl, t, q⟩ := r
    unfold dataP at e
    cases z : datasP g xs with
    | none => rw [z] at e; cases e
    | some ds =>
      rw [z] at e
      cases e
      exact .tup t.sq (dps_of hg q z)
  | .lst xs, _, _, r, e => by
    unfold Rep at r
    obtain ⟨a, vs, rfl, _, t, q⟩ := r
    unfold dataP at e
    cases z : datasP g xs with
    | none => rw [z] at e; cases e
    | some ds =>
      rw [z] at e
      cases e
      exact .lst (.of t) (dps_of hg q z)
  | .obj n, _, _, r, e => by
    unfold Rep at r
    obtain ⟨a, rfl, q⟩ := r
    exact hg n a _ q e
  | .cls _, _, _, _, e => by cases e
  | .scr _, _, _, _, e => by cases e
theorem dps_of {K : PySem.W.Frag} {as : List Addr} {H : Hp} {g : Nat → Option PyData} (hg : ∀ n a d, as[n]? = some a → g n = some d → Dp K H (.ref a) d) : ∀ {p : List P} {v : List V} {d : List PyData}, Reps K as H p v → datasP g p = some d → DpAll K H v d
  | [], _, _, r, e => by
    cases e
    rw [reps_inv0 r]
    exact .nil
  | p :: ps, _, _, r, e => by
    obtain ⟨v, vs, rfl, r1, r2⟩ := reps_inv r
    unfold datasP at e
    split at e
    · rename_i d ds z1 z2
      cases e
      exact .cons (dp_of hg r1 z1) (dps_of hg r2 z2)
    · cases e
end
theorem resolve_ok {K : PySem.W.Frag} {as : List Addr} {h : AH} {H : Hp} (rh : RelH K as h H) : ∀ (k n : Nat) (a : Addr) (d : PyData), as[n]? = some a → resolve h k n = some d → Dp K H (.ref a) d
  | 0, _, _, _, _, e => by cases e
  | k + 1, n, a, d, q, e => by
    unfold resolve at e
    split at e
    · rename_i xs z
      obtain ⟨vs, e1, e2⟩ := rh.obj z q
      cases y : datasP (resolve h k) xs with
      | none => rw [y] at e; cases e
      | some ds =>
        rw [y] at e
        cases e
        exact .lst (.of e1) (dps_of (resolve_ok rh k) e2 y)
    · cases e
theorem dat_ok {K : PySem.W.Frag} {as : List Addr} {h : AH} {H : Hp} (rh : RelH K as h H) {p : P} {v : V} {d : PyData} (r : Rep K as H p v) (e : dat h p = some d) : Dp K H v d := dp_of (resolve_ok rh 4) r e

/-! ### truth -/
def truthP (h : AH) : P → Option Bool
  | .non => some false
  | .bl b => some b
  | .int i => some (i != 0)
  | .str x => if x.length ≤ 16777216 then some ((x.length : Int) != 0) else none
  | .tup xs => some (!xs.isEmpty)
  | .lst xs => some (!xs.isEmpty)
  | .obj n => match h[n]? with
    | some (.lst xs) => some (!xs.isEmpty)
    | some (.dct kvs) => some (!kvs.isEmpty)
    | _ => none
  | .cls _ => none
  | .scr xs => some (!xs.isEmpty)
theorem isEmpty_len {α β : Type} {xs : List α} {ys : List β} (h : xs.length = ys.length) : xs.isEmpty = ys.isEmpty := by
  cases xs with
  | nil => cases ys with
    | nil => rfl
    | cons _ _ => simp at h
  | cons _ _ => cases ys with
    | nil => simp at h
    | cons _ _ => rfl
theorem truth_ok {K : PySem.W.Frag} {as : List Addr} {h : AH} {H : Hp} (rh : RelH K as h H) {p : P} {v : V} {b : Bool} (r : Rep K as H p v) (e : truthP h p = some b) : TruV K v H b := by
  cases p with
  | non => cases e; cases r; rfl
  | bl b => cases e; cases r; rfl
  | int i => cases e; cases r; rfl
  | str x =>
    cases r
    have e : (if x.length ≤ 16777216 then some ((x.length : Int) != 0) else none) = some b := e
    split at e
    · rename_i l
      cases e
      exact ⟨by rw [sizeLine_eq]; exact l, rfl⟩
    · cases e
  | tup xs =>
    unfold Rep at r
    obtain ⟨a, vs, rfl, t, q⟩ := r
    cases e
    exact .inr (.inl ⟨vs, t.sq, by rw [isEmpty_len q.len]⟩)
  | lst xs =>
    unfold Rep at r
    obtain ⟨a, vs, rfl, _, t, q⟩ := r
    cases e
    exact .inl ⟨vs, .of t, by rw [isEmpty_len q.len]⟩
  | obj n =>
    unfold Rep at r
    obtain ⟨a, rfl, q⟩ := r
    have e : (match h[n]? with
      | some (.lst xs) => some (!xs.isEmpty)
      | some (.dct kvs) => some (!kvs.isEmpty)
      | _ => none) = some b := e
    split at e
    · rename_i xs z
      cases e
      obtain ⟨vs, e1, e2⟩ := rh.obj z q
      exact .inl ⟨vs, .of e1, by rw [isEmpty_len e2.len]⟩
    · rename_i xs z
      cases e
      obtain ⟨vs, e1, e2⟩ := rh.obj z q
      exact .inr (.inr ⟨vs, e1, by rw [isEmpty_len (RepK.len e2)]⟩)
    · cases e
  | cls _ => cases e
  | scr xs =>
    unfold Rep at r
    obtain ⟨a, vs, o, rfl, _, t, q⟩ := r
    cases e
    exact .inl ⟨vs, .inl (.inr ⟨o, t⟩), by rw [isEmpty_len q.len]⟩

/-! ### tests -/
def tT (m : EM) : TM := fun t h => (m t h).bind fun p h1 => match truthP h1 p with
  | some b => .ok b h1
  | none => .bad
theorem wt_truth {e : Expr} {m : EM} (he : PEm X W e m) (hp : ∀ whole, isTrue e X.env whole = (do let v ← whole; standAt e.pos; holding [v] (truthy v)) := by intro _; rfl) : PTm X W e (tT m) := by
  refine PT_imp (pt_truth he hp) fun s H Q q => ?_
  obtain ⟨as, h, t, rh, rs, q⟩ := q
  refine ⟨as, h, t, rh, rs, (Post.bind (R := Rep X.K) q).mono fun v H1 z => ?_⟩
  obtain ⟨as1, h1, p, x1, r1, e1, q1⟩ := z
  split at q1
  · rename_i b z
    exact ⟨b, truth_ok r1 e1 z, Post.done q1 (Ext.refl _ _) r1 rfl⟩
  · exact q1.elim
def tNt (m : TM) : TM := fun t h => (m t h).bind fun b h1 => .ok (!b) h1
theorem wt_not {e : Expr} {m : TM} {pos : Pos} (he : PTm X W e m) : PTm X W (.UnaryOp .Not e pos) (tNt m) := by
  refine PT_imp (pt_not he) fun s H Q q => ?_
  obtain ⟨as, h, t, rh, rs, q⟩ := q
  refine ⟨as, h, t, rh, rs, (Post.bind (R := fun _ _ a b => a = b) q).mono fun b H1 z => ?_⟩
  obtain ⟨as1, h1, p, x1, r1, e1, q1⟩ := z
  subst e1
  exact Post.done q1 (Ext.refl _ _) r1 rfl
def tAn (m r : TM) : TM := fun t h => (m t h).bind fun b h1 => if b = true then r t h1 else .ok false h1
def tOr (m r : TM) : TM := fun t h => (m t h).bind fun b h1 => if b = true then .ok true h1 else r t h1
theorem wt_and1 {a : Expr} {m : TM} {pos : Pos} (ha : PTm X W a m) : PWm X W (.BoolOp .And [a] pos) m := pw_and1 ha
theorem wt_or1 {a : Expr} {m : TM} {pos : Pos} (ha : PTm X W a m) : PWm X W (.BoolOp .Or [a] pos) m := pw_or1 ha
theorem wt_and {a b : Expr} {rest : List Expr} {m r : TM} {pos : Pos} (ha : PTm X W a m) (hb : PWm X W (.BoolOp .And (b :: rest) pos) r) : PWm X W (.BoolOp .And (a :: b :: rest) pos) (tAn m r) := by
  refine PW_imp (pw_and ha hb) fun s H Q q => ?_
  obtain ⟨as, h, t, rh, rs, q⟩ := q
  refine ⟨as, h, t, rh, rs, (Post.bind (R := fun _ _ a b => a = b) q).mono fun b H1 z => ?_⟩
  obtain ⟨as1, h1, p, x1, r1, e1, q1⟩ := z
  subst e1
  cases p with
  | true => exact ⟨as1, h1, t, r1, rs.mono x1, q1⟩
  | false => exact Post.done (R := fun _ _ a b => a = b) q1 (Ext.refl _ _) r1 rfl
theorem wt_or {a b : Expr} {rest : List Expr} {m r : TM} {pos : Pos} (ha : PTm X W a m) (hb : PWm X W (.BoolOp .Or (b :: rest) pos) r) : PWm X W (.BoolOp .Or (a :: b :: rest) pos) (AM.tOr m r) := by
  refine PW_imp (pw_or ha hb) fun s H Q q => ?_
  obtain ⟨as, h, t, rh, rs, q⟩ := q
  refine ⟨as, h, t, rh, rs, (Post.bind (R := fun _ _ a b => a = b) q).mono fun b H1 z => ?_⟩
  obtain ⟨as1, h1, p, x1, r1, e1, q1⟩ := z
  subst e1
  cases p with
  | false => exact ⟨as1, h1, t, r1, rs.mono x1, q1⟩
  | true => exact Post.done (R := fun _ _ a b => a = b) q1 (Ext.refl _ _) r1 rfl

/-! ### and, or, not as values; the conditional expression -/
def eAn (m r : EM) : EM := fun t h => (m t h).bind fun x h1 => match truthP h1 x with
  | some true => r t h1
  | some false => .ok x h1
  | none => .bad
def eOr (m r : EM) : EM := fun t h => (m t h).bind fun x h1 => match truthP h1 x with
  | some false => r t h1
  | some true => .ok x h1
  | none => .bad
theorem w_one {op : BoolOp} {a : Expr} {m : EM} {pos : Pos} (h : PEm X W a m) : PEm X W (.BoolOp op [a] pos) m := pe_one h
theorem w_and {a b : Expr} {rest : List Expr} {m r : EM} {pos : Pos} (ha : PEm X W a m) (hb : PEm X W (.BoolOp .And (b :: rest) pos) r) : PEm X W (.BoolOp .And (a :: b :: rest) pos) (eAn m r) := by
  refine PE_imp (pe_andT ha hb) fun s H Q q => ?_
  obtain ⟨as, h, t, rh, rs, q⟩ := q
  refine ⟨as, h, t, rh, rs, (Post.bind (R := Rep X.K) q).mono fun v H1 z => ?_⟩
  obtain ⟨as1, h1, p, x1, r1, e1, q1⟩ := z
  split at q1
  · rename_i z
    exact ⟨true, truth_ok r1 e1 z, by rw [if_pos rfl]; exact ⟨as1, h1, t, r1, rs.mono x1, q1⟩⟩
  · rename_i z
    exact ⟨false, truth_ok r1 e1 z, by rw [if_neg Bool.false_ne_true]; exact Post.done q1 (Ext.refl _ _) r1 e1⟩
  · exact q1.elim
theorem w_or {a b : Expr} {rest : List Expr} {m r : EM} {pos : Pos} (ha : PEm X W a m) (hb : PEm X W (.BoolOp .Or (b :: rest) pos) r) : PEm X W (.BoolOp .Or (a :: b :: rest) pos) (eOr m r) := by
  refine PE_imp (pe_orT ha hb) fun s H Q q => ?_
  obtain ⟨as, h, t, rh, rs, q⟩ := q
  refine ⟨as, h, t, rh, rs, (Post.bind (R := Rep X.K) q).mono fun v H1 z => ?_⟩
  obtain ⟨as1, h1, p, x1, r1, e1, q1⟩ := z
  split at q1
  · rename_i z
    exact ⟨false, truth_ok r1 e1 z, by rw [if_neg Bool.false_ne_true]; exact ⟨as1, h1, t, r1, rs.mono x1, q1⟩⟩
  · rename_i z
    exact ⟨true, truth_ok r1 e1 z, by rw [if_pos rfl]; exact Post.done q1 (Ext.refl _ _) r1 e1⟩
  · exact q1.elim
def eNt (m : EM) : EM := fun t h => (m t h).bind fun x h1 => match truthP h1 x with
  | some b => .ok (.bl (!b)) h1
  | none => .bad
theorem w_not {a : Expr} {m : EM} {pos : Pos} (ha : PEm X W a m) : PEm X W (.UnaryOp .Not a pos) (eNt m) := by
  refine PE_imp (pe_notT ha) fun s H Q q => ?_
  obtain ⟨as, h, t, rh, rs, q⟩ := q
  refine ⟨as, h, t, rh, rs, (Post.bind (R := Rep X.K) q).mono fun v H1 z => ?_⟩
  obtain ⟨as1, h1, p, x1, r1, e1, q1⟩ := z
  split at q1
  · rename_i b z
    exact ⟨b, truth_ok r1 e1 z, Post.done q1 (Ext.refl _ _) r1 rfl⟩
  · exact q1.elim
def eIf (c : TM) (a b : EM) : EM := fun t h => (c t h).bind fun k h1 => if k = true then a t h1 else b t h1
theorem w_ifE {c a b : Expr} {mc : TM} {ma mb : EM} {pos : Pos} (hc : PTm X W c mc) (ha : PEm X W a ma) (hb : PEm X W b mb) : PEm X W (.IfExp c a b pos) (eIf mc ma mb) := by
  refine PE_imp (pe_ifExp hc ha hb) fun s H Q q => ?_
  obtain ⟨as, h, t, rh, rs, q⟩ := q
  refine ⟨as, h, t, rh, rs, (Post.bind (R := fun _ _ a b => a = b) q).mono fun b H1 z => ?_⟩
  obtain ⟨as1, h1, p, x1, r1, e1, q1⟩ := z
  subst e1
  cases p with
  | true => exact ⟨as1, h1, t, r1, rs.mono x1, q1⟩
  | false => exact ⟨as1, h1, t, r1, rs.mono x1, q1⟩

/-! ### comparisons by value -/
abbrev CmpF := P → P → AH → Option Bool
/-- the rule r tells what f tells -/
def CmpS (K : PySem.W.Frag) (r : R2) (f : CmpF) : Prop := ∀ {as : List Addr} {h : AH} {H : Hp} {p q : P} {v w : V} {Q : VK} {k : Bool}, RelH K as h H → Rep K as H p v → Rep K as H q w → f p q h = some k → Q (.bl k) H → r v w H Q
def cmpV (f : CmpF) (p q : P) (h : AH) : Out Bool := match f p q h with
  | some k => .ok k h
  | none => .bad
def eCmp (f : CmpF) (a b : EM) : EM := fun t h => (a t h).bind fun x h1 => (b t h1).bind fun y h2 => (cmpV f x y h2).bind fun k h3 => .ok (.bl k) h3
def tCp (f : CmpF) (a b : EM) : TM := fun t h => (a t h).bind fun x h1 => (b t h1).bind fun y h2 => cmpV f x y h2
theorem cmpV_ok {K : PySem.W.Frag} {s : L2.St} {r : R2} {f : CmpF} (hs : CmpS K r f) {as : List Addr} {h : AH} {H : Hp} {p q : P} {v w : V} {Q : Bool → Hp → Prop} (rh : RelH K as h H) (rp : Rep K as H p v) (rq : Rep K as H q w)
    (z : Post (fun _ _ a b => a = b) K W s as H (cmpV f p q h) Q) : r v w H fun c H' => ∃ k, c = .bl k ∧ Q k H' := by
  unfold cmpV at z
  split at z
  · rename_i k e
    exact hs rh rp rq e ⟨k, rfl, Post.done (R := fun _ _ a b => a = b) z (Ext.refl _ _) rh rfl⟩
  · exact z.elim
theorem w_cmp {op : CmpOp} {r : R2} {f : CmpF} {a b : Expr} {ma mb : EM} {pos : Pos} (ho : OpR X (compareOp op) r) (hs : CmpS X.K r f) (ha : PEm X W a ma) (hb : PEm X W b mb) (hm : behindInMarks op b = false := by first | exact nomark _ | rfl | with_unfolding_all rfl) : PEm X W (.Compare a [op] [b] pos) (eCmp f ma mb) := by
  refine PE_imp (pe_cmpR ho ha hb hm) fun s H Q q => ?_
  obtain ⟨as, h, t, rh, rs, q⟩ := q
  refine ⟨as, h, t, rh, rs, (Post.bind (R := Rep X.K) q).mono fun v H1 z => ?_⟩
  obtain ⟨as1, h1, p, x1, r1, e1, q1⟩ := z
  refine ⟨as1, h1, t, r1, rs.mono x1, (Post.bind (R := Rep X.K) q1).mono fun v2 H2 z => ?_⟩
  obtain ⟨as2, h2, p2, x2, r2, e2, q2⟩ := z
  unfold cmpV at q2
  split at q2
  · rename_i k e
    exact hs r2 (e1.mono x2) e2 e (Post.done q2 (Ext.refl _ _) r2 rfl)
  · exact q2.elim
theorem wt_cmp {op : CmpOp} {r : R2} {f : CmpF} {a b : Expr} {ma mb : EM} {pos : Pos} (ho : OpR X (compareOp op) r) (hs : CmpS X.K r f) (ha : PEm X W a ma) (hb : PEm X W b mb) (hm : behindInMarks op b = false := by first | exact nomark _ | rfl | with_unfolding_all rfl) : PTm X W (.Compare a [op] [b] pos) (tCp f ma mb) := by
  refine PT_imp (pt_cmpR ho ha hb hm) fun s H Q q => ?_
  obtain ⟨as, h, t, rh, rs, q⟩ := q
  refine ⟨as, h, t, rh, rs, (Post.bind (R := Rep X.K) q).mono fun v H1 z => ?_⟩
  obtain ⟨as1, h1, p, x1, r1, e1, q1⟩ := z
  refine ⟨as1, h1, t, r1, rs.mono x1, (Post.bind (R := Rep X.K) q1).mono fun v2 H2 z => ?_⟩
  obtain ⟨as2, h2, p2, x2, r2, e2, q2⟩ := z
  exact cmpV_ok hs r2 (e1.mono x2) e2 q2
/-- a op b op' c -/
def tCh (f g : CmpF) (a b c : EM) : TM := fun t h => (a t h).bind fun x h1 => (b t h1).bind fun y h2 => (cmpV f x y h2).bind fun k h3 => if k = true then (c t h3).bind fun z h4 => cmpV g y z h4 else .ok false h3
def eCh (f g : CmpF) (a b c : EM) : EM := fun t h => (tCh f g a b c t h).bind fun k h1 => .ok (.bl k) h1
theorem wt_chain {op op' : CmpOp} {r r' : R2} {f g : CmpF} {a b c : Expr} {ma mb mc : EM} {pos : Pos} (ho : OpR X (compareOp op) r) (hs : CmpS X.K r f) (ho' : OpR X (compareOp op') r') (hs' : CmpS X.K r' g) (ha : PEm X W a ma) (hb : PEm X W b mb) (hc : PEm X W c mc)
    (hm : lastMarks [op, op'] [b, c] = false := by with_unfolding_all rfl) : PTm X W (.Compare a [op, op'] [b, c] pos) (tCh f g ma mb mc) := by
  refine PT_imp (pt_chain ho ho' ha hb hc hm) fun s H Q q => ?_
  obtain ⟨as, h, t, rh, rs, q⟩ := q
  refine ⟨as, h, t, rh, rs, (Post.bind (R := Rep X.K) q).mono fun v H1 z => ?_⟩
  obtain ⟨as1, h1, p, x1, r1, e1, q1⟩ := z
  refine ⟨as1, h1, t, r1, rs.mono x1, (Post.bind (R := Rep X.K) q1).mono fun v2 H2 z => ?_⟩
  obtain ⟨as2, h2, p2, x2, r2, e2, q2⟩ := z
  unfold cmpV at q2
  split at q2
  · rename_i k e
    refine hs r2 (e1.mono x2) e2 e ⟨k, rfl, ?_⟩
    cases k with
    | true =>
      refine ⟨as2, h2, t, r2, rs.mono (x1.trans x2), (Post.bind (R := Rep X.K) (o := mc t h2) (f := fun z h4 => cmpV g p2 z h4) q2).mono fun v3 H3 z => ?_⟩
      obtain ⟨as3, h3, p3, x3, r3, e3, q3⟩ := z
      exact cmpV_ok hs' r3 (e2.mono x3) e3 q3
    | false => exact ⟨false, rfl, Post.done (R := fun _ _ a b => a = b) q2 (Ext.refl _ _) r2 rfl⟩
  · exact q2.elim
end
end AM

/-! AM8: operators and comparisons by value. -/
namespace AM
open PySem PySem.Spec PyProof.Rows L2
noncomputable section
variable {X : Cx} {W : WX} {K : PySem.W.Frag}

/-! ### comparisons -/
def eqP : CmpF := fun p q h => match p, q with
  | .str x, .str y => some (x == y)
  | p, q => match dat h p, dat h q with
    | some d, some e => if SeqAt.shaped d = true ∧ SeqAt.shaped e = true then some (PyData.eqv d e) else none
    | _, _ => none
def neP : CmpF := fun p q h => (eqP p q h).map (!·)
def rEqA (K : PySem.W.Frag) : R2 := fun x y H Q => rEq x y H Q ∨ rEqD K x y H Q
def rNeA (K : PySem.W.Frag) : R2 := fun x y H Q => rNe x y H Q ∨ rNeD K x y H Q
theorem room64 {k : Nat} (hk : Here X k) : X.A.units + 64 < cLine := by
  have z := hk.room.un
  omega
theorem room65 {k : Nat} (hk : Here X k) : X.A.units + 65 < cLine := by
  have z := hk.room.un
  omega
theorem or_eq {k : Nat} (hk : Here X k) : OpR X (compareOp .Eq) (rEqA X.K) := op_eq.or (op_eqD (room64 hk))
theorem or_ne {k : Nat} (hk : Here X k) : OpR X (compareOp .NotEq) (rNeA X.K) := op_ne.or (op_neD (room64 hk))
theorem eqP_cases {p q : P} {h : AH} {b : Bool} (e : eqP p q h = some b) : (∃ x y, p = .str x ∧ q = .str y ∧ b = (x == y)) ∨ ∃ d f, dat h p = some d ∧ dat h q = some f ∧ SeqAt.shaped d = true ∧ SeqAt.shaped f = true ∧ b = PyData.eqv d f := by
  unfold eqP at e
  split at e
  · rename_i x y
    cases e
    exact .inl ⟨x, y, rfl, rfl, rfl⟩
  · split at e
    · rename_i d f z1 z2
      split at e
      · rename_i z3
        cases e
        exact .inr ⟨d, f, z1, z2, z3.1, z3.2, rfl⟩
      · cases e
    · cases e
theorem cs_eq : CmpS K (rEqA K) eqP := fun {as h H p q v w Q k} rh rp rq e z => by
  rcases eqP_cases e with ⟨x, y, rfl, rfl, rfl⟩ | ⟨d, f, h1, h2, h3, h4, rfl⟩
  · cases rp
    cases rq
    refine .inl ⟨rfl, ?_⟩
    rw [dec_str]
    exact z
  · exact .inr ⟨d, f, dat_ok rh rp h1, dat_ok rh rq h2, h3, h4, z⟩
theorem cs_ne : CmpS K (rNeA K) neP := fun {as h H p q v w Q k} rh rp rq e z => by
  unfold neP at e
  obtain ⟨b, e1, e2⟩ := Option.map_eq_some_iff.mp e
  subst e2
  rcases eqP_cases e1 with ⟨x, y, rfl, rfl, rfl⟩ | ⟨d, f, h1, h2, h3, h4, rfl⟩
  · cases rp
    cases rq
    refine .inl ⟨rfl, ?_⟩
    rw [dec_str]
    exact z
  · exact .inr ⟨d, f, dat_ok rh rp h1, dat_ok rh rq h2, h3, h4, z⟩
def intC (f : Int → Int → Bool) : CmpF := fun p q _ => match p, q with
  | .int i, .int j => some (f i j)
  | _, _ => none
theorem cs_int {f : Int → Int → Bool} : CmpS K (rI0 fun i j => .bl (f i j)) (intC f) := fun {as h H p q v w Q k} rh rp rq e z => by
  unfold intC at e
  split at e
  · cases e
    cases rp
    cases rq
    exact ⟨_, _, rfl, rfl, z⟩
  · cases e
abbrev ltP : CmpF := intC fun i j => decide (i < j)
abbrev leP : CmpF := intC fun i j => decide (i ≤ j)
abbrev gtP : CmpF := intC fun i j => decide (j < i)
abbrev geP : CmpF := intC fun i j => decide (j ≤ i)
/-- is None, True, False -/
def isP : CmpF := fun p q _ => match q with
  | .non => (match p with
    | .non => some true
    | _ => some false)
  | .bl b => (match p with
    | .bl a => some (decide (a = b))
    | _ => none)
  | _ => none
def isntP : CmpF := fun p q h => (isP p q h).map (!·)
def rIsA : R2 := fun x y H Q => (y = .non ∧ Q (.bl (decide (x = .non))) H) ∨ rIsB x y H Q
def rIsntA : R2 := fun x y H Q => (y = .non ∧ Q (.bl (!decide (x = .non))) H) ∨ rNotB x y H Q
theorem or_is : OpR X (compareOp .Is) rIsA := op_isN.or op_isBl
theorem or_isnt : OpR X (compareOp .IsNot) rIsntA := op_notN.or op_notBl
theorem not_non {as : List Addr} {H : Hp} {p : P} {v : V} (r : Rep K as H p v) (n : p ≠ .non) : v ≠ .non := by
  cases p with
  | non => exact absurd rfl n
  | bl b => cases r; simp
  | int b => cases r; simp
  | str b => cases r; simp
  | cls b => cases r; simp
  | tup b => unfold Rep at r; obtain ⟨a, vs, rfl, _⟩ := r; simp
  | lst b => unfold Rep at r; obtain ⟨a, vs, rfl, _⟩ := r; simp
  | obj b => unfold Rep at r; obtain ⟨a, rfl, _⟩ := r; simp
  | scr b => unfold Rep at r; obtain ⟨a, vs, o, rfl, _⟩ := r; simp
theorem isP_cases {p q : P} {h : AH} {b : Bool} (e : isP p q h = some b) : (q = .non ∧ ((p = .non ∧ b = true) ∨ (p ≠ .non ∧ b = false))) ∨ ∃ x y, p = .bl x ∧ q = .bl y ∧ b = decide (x = y) := by
  unfold isP at e
  split at e
  · refine .inl ⟨rfl, ?_⟩
    split at e
    · cases e; exact .inl ⟨rfl, rfl⟩
    · rename_i z; cases e; exact .inr ⟨fun y => z y, rfl⟩
  · split at e
    · cases e; exact .inr ⟨_, _, rfl, rfl, rfl⟩
    · cases e
  · cases e
theorem cs_is : CmpS K rIsA isP := fun {as h H p q v w Q k} rh rp rq e z => by
  rcases isP_cases e with ⟨rfl, ⟨rfl, rfl⟩ | ⟨n, rfl⟩⟩ | ⟨x, y, rfl, rfl, rfl⟩
  · cases rp; cases rq; exact .inl ⟨rfl, by simpa using z⟩
  · cases rq; exact .inl ⟨rfl, by simpa [not_non rp n] using z⟩
  · cases rp; cases rq; exact .inr ⟨x, y, rfl, rfl, z⟩
theorem cs_isnt : CmpS K rIsntA isntP := fun {as h H p q v w Q k} rh rp rq e z => by
  unfold isntP at e
  obtain ⟨b, e1, e2⟩ := Option.map_eq_some_iff.mp e
  subst e2
  rcases isP_cases e1 with ⟨rfl, ⟨rfl, rfl⟩ | ⟨n, rfl⟩⟩ | ⟨x, y, rfl, rfl, rfl⟩
  · cases rp; cases rq; exact .inl ⟨rfl, by simpa using z⟩
  · cases rq; exact .inl ⟨rfl, by simpa [not_non rp n] using z⟩
  · cases rp; cases rq; exact .inr ⟨x, y, rfl, rfl, z⟩
/-- in: data in lists, flat things in tuples, keys in dicts, texts in texts -/
def flatP : P → Bool
  | .non => true
  | .bl _ => true
  | .int _ => true
  | .str _ => true
  | _ => false
def flatD : P → PyData
  | .non => .none
  | .bl b => .bool b
  | .int i => .int i
  | .str x => .str x
  | _ => .none
def inP : CmpF := fun p q h => match q with
  | .tup xs => if flatP p = true ∧ xs.all flatP = true then some (xs.any fun y => PyData.eqv (flatD y) (flatD p)) else none
  | .str y => (match p with
    | .str x => some (!(Builtin.Str.occurrences y x 0 y.length 1).isEmpty)
    | _ => none)
  | .lst xs => if flatP p = true ∧ xs.all flatP = true then some (xs.any fun y => PyData.eqv (flatD y) (flatD p)) else
      (match dat h p, dat h q with
      | some d, some (.list ds) => if SeqAt.shaped d = true ∧ SeqAt.shaped (.list ds) = true then some (ds.any fun z => PyData.eqv z d) else none
      | _, _ => none)
  | .obj n => (match h[n]? with
    | some (.dct kvs) => (keyOf p).map fun k => (getP kvs k).isSome
    | _ => (match dat h p, dat h q with
      | some d, some (.list ds) => if SeqAt.shaped d = true ∧ SeqAt.shaped (.list ds) = true then some (ds.any fun z => PyData.eqv z d) else none
      | _, _ => none))
  | _ => none
def notinP : CmpF := fun p q h => (inP p q h).map (!·)
def rDIn (neg : Bool) : R2 := fun x y H Q => ∃ a o, y = .ref a ∧ DGet H a x o ∧ Q (.bl (if neg then !o.isSome else o.isSome)) H
theorem op_din {k : Nat} (hk : Here X k) : OpR X (compareOp .In) (rDIn false) := by
  intro pins s σ H x y v u Q I rx ry h
  obtain ⟨a, o, rfl, g, q⟩ := h
  cases ry
  exact d_in (hu_of hk.room) I g rx fun s' I' => ⟨.bl o.isSome, H, I', rfl, q⟩
theorem op_dnotin {k : Nat} (hk : Here X k) : OpR X (compareOp .NotIn) (rDIn true) := by
  intro pins s σ H x y v u Q I rx ry h
  obtain ⟨a, o, rfl, g, q⟩ := h
  cases ry
  exact d_notIn (hu_of hk.room) I g rx fun s' I' => ⟨.bl (!o.isSome), H, I', rfl, q⟩
def rInS (neg : Bool) : R2 := fun x y H Q => ∃ i j, x = .str i ∧ y = .str j ∧ Q (.bl (if neg then !(!(Builtin.Str.occurrences j i 0 j.length 1).isEmpty) else !(Builtin.Str.occurrences j i 0 j.length 1).isEmpty)) H
def rInA (K : PySem.W.Frag) : R2 := fun x y H Q => ((rIn K false x y H Q ∨ rInD K x y H Q) ∨ rDIn false x y H Q) ∨ rInS false x y H Q
def rNotinA (K : PySem.W.Frag) : R2 := fun x y H Q => ((rIn K true x y H Q ∨ rNotInD K x y H Q) ∨ rDIn true x y H Q) ∨ rInS true x y H Q
theorem or_in {k : Nat} (hk : Here X k) : OpR X (compareOp .In) (rInA X.K) := ((op_in_seq.or (op_inD (room65 hk))).or (op_din hk)).or op_in_str
theorem or_notin {k : Nat} (hk : Here X k) : OpR X (compareOp .NotIn) (rNotinA X.K) := ((op_notIn_seq.or (op_notInD (room65 hk))).or (op_dnotin hk)).or op_notin_str
theorem flat_rep {as : List Addr} {H : Hp} {p : P} {v : V} (r : Rep K as H p v) (f : flatP p = true) : flatV v = true ∧ ∀ {q : P} {w : V}, Rep K as H q w → flatP q = true → eqV v w = PyData.eqv (flatD p) (flatD q) := by
  cases p with
  | non => cases r; refine ⟨rfl, fun {q w} s g => ?_⟩; cases q <;> first | (cases s; rfl) | cases g
  | bl b => cases r; refine ⟨rfl, fun {q w} s g => ?_⟩; cases q <;> first | (cases s; rfl) | cases g
  | int b => cases r; refine ⟨rfl, fun {q w} s g => ?_⟩; cases q <;> first | (cases s; rfl) | cases g
  | str b => cases r; refine ⟨rfl, fun {q w} s g => ?_⟩; cases q <;> first | (cases s; rfl) | cases g
  | cls b => cases f
  | tup b => cases f
  | lst b => cases f
  | obj b => cases f
  | scr b => cases f
theorem flats_rep {as : List Addr} {H : Hp} {p : P} {v : V} (r : Rep K as H p v) (f : flatP p = true) : ∀ {xs : List P} {vs : List V}, Reps K as H xs vs → xs.all flatP = true → vs.all flatV = true ∧ inV v vs = xs.any fun y => PyData.eqv (flatD y) (flatD p)
  | [], _, t, _ => by rw [reps_inv0 t]; exact ⟨rfl, rfl⟩
  | x :: xs, _, t, g => by
    obtain ⟨u, us, rfl, t1, t2⟩ := reps_inv t
    rw [List.all_cons, Bool.and_eq_true] at g
    obtain ⟨h1, h2⟩ := flats_rep r f t2 g.2
    obtain ⟨h3, h4⟩ := flat_rep t1 g.1
    refine ⟨by rw [List.all_cons, h3, h1]; rfl, ?_⟩
    unfold inV at h2 ⊢
    rw [List.any_cons, List.any_cons, h2, h4 r f]
/-- the four ways -/
theorem in_cases {as : List Addr} {h : AH} {H : Hp} {p q : P} {v w : V} {k : Bool} (rh : RelH K as h H) (rp : Rep K as H p v) (rq : Rep K as H q w) (e : inP p q h = some k) :
    (∃ a xs, w = .ref a ∧ (SqL K H a xs ∨ SqT K H a xs) ∧ flatV v = true ∧ xs.all flatV = true ∧ inV v xs = k) ∨
    (∃ d ds, Dp K H v d ∧ Dp K H w (.list ds) ∧ SeqAt.shaped d = true ∧ SeqAt.shaped (.list ds) = true ∧ (ds.any fun z => PyData.eqv z d) = k) ∨
    (∃ a o, w = .ref a ∧ DGet H a v o ∧ o.isSome = k) ∨ (∃ i j, v = .str i ∧ w = .str j ∧ (!(Builtin.Str.occurrences j i 0 j.length 1).isEmpty) = k) := by
  have data : ∀ {n : Bool}, (match dat h p, dat h q with
      | some d, some (.list ds) => if SeqAt.shaped d = true ∧ SeqAt.shaped (.list ds) = true then some (ds.any fun z => PyData.eqv z d) else none
      | _, _ => none) = some n → (∃ d ds, Dp K H v d ∧ Dp K H w (.list ds) ∧ SeqAt.shaped d = true ∧ SeqAt.shaped (.list ds) = true ∧ (ds.any fun z => PyData.eqv z d) = n) := by
    intro n y
    split at y
    · rename_i d ds z1 z2
      split at y
      · rename_i z3
        cases y
        exact ⟨d, ds, dat_ok rh rp z1, dat_ok rh rq z2, z3.1, z3.2, rfl⟩
      · cases y
    · cases y
  cases q with
  | non => cases e
  | bl b => cases e
  | int b => cases e
  | cls b => cases e
  | scr b => cases e
  | tup xs =>
    have e : (if flatP p = true ∧ xs.all flatP = true then some (xs.any fun y => PyData.eqv (flatD y) (flatD p)) else none) = some k := e
    split at e
    · rename_i z
      cases e
      unfold Rep at rq
      obtain ⟨a, vs, rfl, t, r⟩ := rq
      obtain ⟨h1, h2⟩ := flats_rep rp z.1 r z.2
      exact .inl ⟨a, vs, rfl, .inr t.sq, (flat_rep rp z.1).1, h1, h2⟩
    · cases e
  | lst xs =>
    have e : (if flatP p = true ∧ xs.all flatP = true then some (xs.any fun y => PyData.eqv (flatD y) (flatD p)) else
      (match dat h p, dat h (.lst xs) with
      | some d, some (.list ds) => if SeqAt.shaped d = true ∧ SeqAt.shaped (.list ds) = true then some (ds.any fun z => PyData.eqv z d) else none
      | _, _ => none)) = some k := e
    split at e
    · rename_i z
      cases e
      unfold Rep at rq
      obtain ⟨a, vs, rfl, _, t, r⟩ := rq
      obtain ⟨h1, h2⟩ := flats_rep rp z.1 r z.2
      exact .inl ⟨a, vs, rfl, .inl (.of t), (flat_rep rp z.1).1, h1, h2⟩
    · exact .inr (.inl (data e))
  | str y =>
    cases rq
    cases p with
    | str x =>
      cases rp
      cases e
      exact .inr (.inr (.inr ⟨_, _, rfl, rfl, rfl⟩))
    | non => cases e
    | bl _ => cases e
    | int _ => cases e
    | tup _ => cases e
    | lst _ => cases e
    | obj _ => cases e
    | cls _ => cases e
    | scr _ => cases e
  | obj n =>
    have e : (match h[n]? with
      | some (.dct kvs) => (keyOf p).map fun k => (getP kvs k).isSome
      | _ => (match dat h p, dat h (.obj n) with
        | some d, some (.list ds) => if SeqAt.shaped d = true ∧ SeqAt.shaped (.list ds) = true then some (ds.any fun z => PyData.eqv z d) else none
        | _, _ => none)) = some k := e
    split at e
    · rename_i kvs z
      obtain ⟨kk, e1, e2⟩ := Option.map_eq_some_iff.mp e
      subst e2
      have ev := keyOf_ok rp e1
      subst ev
      unfold Rep at rq
      obtain ⟨a, rfl, ea⟩ := rq
      obtain ⟨ws, h1, h2⟩ := rh.obj z ea
      obtain ⟨g1, g2⟩ := RepK.get kk (show RepK K as H kvs ws from h2)
      refine .inr (.inr (.inl ⟨a, valV ws kk, rfl, DGet.k h1, ?_⟩))
      cases y : getP kvs kk with
      | none => rw [g2 y]; rfl
      | some x =>
        obtain ⟨u, h3, _⟩ := g1 x y
        rw [h3]
        rfl
    · exact .inr (.inl (data e))
theorem cs_in : CmpS K (rInA K) inP := fun {as h H p q v w Q k} rh rp rq e z => by
  rcases in_cases rh rp rq e with ⟨a, xs, rfl, h1, h2, h3, rfl⟩ | ⟨d, ds, h1, h2, h3, h4, rfl⟩ | ⟨a, o, rfl, h1, rfl⟩ | ⟨i, j, rfl, rfl, rfl⟩
  · exact .inl (.inl (.inl ⟨a, xs, rfl, h1, h2, h3, z⟩))
  · exact .inl (.inl (.inr ⟨d, ds, h1, h2, h3, h4, z⟩))
  · exact .inl (.inr ⟨a, o, rfl, h1, z⟩)
  · exact .inr ⟨i, j, rfl, rfl, z⟩
theorem cs_notin : CmpS K (rNotinA K) notinP := fun {as h H p q v w Q k} rh rp rq e z => by
  unfold notinP at e
  obtain ⟨b, e1, e2⟩ := Option.map_eq_some_iff.mp e
  subst e2
  rcases in_cases rh rp rq e1 with ⟨a, xs, rfl, h1, h2, h3, rfl⟩ | ⟨d, ds, h1, h2, h3, h4, rfl⟩ | ⟨a, o, rfl, h1, rfl⟩ | ⟨i, j, rfl, rfl, rfl⟩
  · exact .inl (.inl (.inl ⟨a, xs, rfl, h1, h2, h3, z⟩))
  · exact .inl (.inl (.inr ⟨d, ds, h1, h2, h3, h4, z⟩))
  · exact .inl (.inr ⟨a, o, rfl, h1, z⟩)
  · exact .inr ⟨i, j, rfl, rfl, z⟩
end
end AM

/-! AM9: operators, subscripts, slices, displays, built-in calls and methods. -/
namespace AM
open PySem PySem.Spec PyProof.Rows L2
noncomputable section
variable {X : Cx} {W : WX} {K : PySem.W.Frag}

/-! ### by value -/
abbrev F1 := P → AH → Out P
abbrev F2 := P → P → AH → Out P
abbrev FL := List P → AH → Out P
def Snd1 (K : PySem.W.Frag) (r : V → Hp → VK → Prop) (f : F1) : Prop := ∀ {W : WX} {s : L2.St} {as : List Addr} {h : AH} {H : Hp} {p : P} {v : V} {Q : VK}, RelH K as h H → Rep K as H p v → Post (Rep K) K W s as H (f p h) Q → r v H Q
def Snd2 (K : PySem.W.Frag) (r : R2) (f : F2) : Prop := ∀ {W : WX} {s : L2.St} {as : List Addr} {h : AH} {H : Hp} {p q : P} {v w : V} {Q : VK}, RelH K as h H → Rep K as H p v → Rep K as H q w → Post (Rep K) K W s as H (f p q h) Q → r v w H Q
def SndL (K : PySem.W.Frag) (r : List V → Hp → VK → Prop) (f : FL) : Prop := ∀ {W : WX} {s : L2.St} {as : List Addr} {h : AH} {H : Hp} {p : List P} {v : List V} {Q : VK}, RelH K as h H → Reps K as H p v → Post (Rep K) K W s as H (f p h) Q → r v H Q
/-- two at once -/
def orF2 (f g : F2) : F2 := fun p q h => match f p q h with
  | .bad => g p q h
  | o => o
theorem Snd2.or {r r' : R2} {f g : F2} (a : Snd2 K r f) (b : Snd2 K r' g) : Snd2 K (fun x y H Q => r x y H Q ∨ r' x y H Q) (orF2 f g) := fun {W s as h H p q v w Q} rh rp rq z => by
  unfold orF2 at z
  cases e : f p q h with
  | bad => rw [e] at z; exact .inr (b rh rp rq z)
  | ok x h' => rw [e] at z; exact .inl (a rh rp rq (by rw [e]; exact z))
  | exc c x h' => rw [e] at z; exact .inl (a rh rp rq (by rw [e]; exact z))
def orFL (f g : FL) : FL := fun p h => match f p h with
  | .bad => g p h
  | o => o
theorem SndL.or {r r' : List V → Hp → VK → Prop} {f g : FL} (a : SndL K r f) (b : SndL K r' g) : SndL K (fun x H Q => r x H Q ∨ r' x H Q) (orFL f g) := fun {W s as h H p v Q} rh rp z => by
  unfold orFL at z
  cases e : f p h with
  | bad => rw [e] at z; exact .inr (b rh rp z)
  | ok x h' => rw [e] at z; exact .inl (a rh rp (by rw [e]; exact z))
  | exc c x h' => rw [e] at z; exact .inl (a rh rp (by rw [e]; exact z))
def eB (f : F2) (a b : EM) : EM := fun t h => (a t h).bind fun x h1 => (b t h1).bind fun y h2 => f x y h2
theorem two_post {ma mb : EM} {f : F2} {r : R2} {s : L2.St} {H : Hp} {Q : VK} (hs : Snd2 X.K r f) (q : TEm X.K W (eB f ma mb) s H Q) : tOp r (TEm X.K W ma) (TEm X.K W mb) s H Q := by
  obtain ⟨as, h, t, rh, rs, q⟩ := q
  refine ⟨as, h, t, rh, rs, (Post.bind (R := Rep X.K) q).mono fun v H1 z => ?_⟩
  obtain ⟨as1, h1, p, x1, r1, e1, q1⟩ := z
  refine ⟨as1, h1, t, r1, rs.mono x1, (Post.bind (R := Rep X.K) q1).mono fun v2 H2 z => ?_⟩
  obtain ⟨as2, h2, p2, x2, r2, e2, q2⟩ := z
  exact hs r2 (e1.mono x2) e2 q2
theorem w_bin {op : Operator} {r : R2} {f : F2} {a b : Expr} {ma mb : EM} {pos : Pos} (ho : OpR X (binaryOp op) r) (hs : Snd2 X.K r f) (ha : PEm X W a ma) (hb : PEm X W b mb) : PEm X W (.BinOp a op b pos) (eB f ma mb) :=
  PE_imp (pe_op ho ha hb) fun s H Q q => two_post hs q

/-! ### ints -/
def okI (i : Int) (h : AH) : Out P := .ok (.int i) h
def vInt (c : Int → Int → Bool) (f : Int → Int → Int) : F2 := fun p q h => match p, q with
  | .int i, .int j => if c i j = true then .ok (.int (f i j)) h else .bad
  | _, _ => .bad
theorem sn_int {C : Int → Int → Prop} {c : Int → Int → Bool} {f : Int → Int → Int} (hc : ∀ i j, c i j = true → C i j) : Snd2 K (rI C fun i j => .int (f i j)) (vInt c f) := fun {W s as h H p q v w Q} rh rp rq z => by
  unfold vInt at z
  split at z
  · split at z
    · rename_i hh
      cases rp
      cases rq
      exact ⟨_, _, rfl, rfl, hc _ _ hh, Post.done z (Ext.refl _ _) rh rfl⟩
    · exact z.elim
  · exact z.elim
def vInt0 (f : Int → Int → Int) : F2 := fun p q h => match p, q with
  | .int i, .int j => .ok (.int (f i j)) h
  | _, _ => .bad
theorem sn_int0 {f : Int → Int → Int} : Snd2 K (rI0 fun i j => .int (f i j)) (vInt0 f) := fun {W s as h H p q v w Q} rh rp rq z => by
  unfold vInt0 at z
  split at z
  · cases rp
    cases rq
    exact ⟨_, _, rfl, rfl, Post.done z (Ext.refl _ _) rh rfl⟩
  · exact z.elim
abbrev vSub : F2 := vInt0 fun i j => i - j
abbrev mulOk (i j : Int) : Bool := decide (i.natAbs.log2 + j.natAbs.log2 < 1000000)
abbrev vMulI : F2 := vInt mulOk fun i j => i * j
abbrev divOk (_ j : Int) : Bool := decide (0 < j) && decide (j.natAbs.log2 < 9000)
abbrev vDiv : F2 := vInt divOk fun i j => i / j
abbrev vMod : F2 := vInt (fun _ j => decide (0 < j)) fun i j => i % j
/-- n to the k: bits times k within the line -/
abbrev powOk (i j : Int) : Bool := decide (0 ≤ j) && decide ((Builtin.Int.intBits i : Int) * j ≤ 2 ^ 27)
abbrev vPow : F2 := vInt powOk fun i j => i ^ j.toNat
theorem op_powW : OpR X (binaryOp .Pow) (rI (fun i j => 0 ≤ j ∧ (Builtin.Int.intBits i : Int) * j ≤ 2 ^ 27) fun i j => .int (i ^ j.toNat)) := opI fun _ _ _ _ _ _ _ hc q => pow_int hc.1 hc.2 q
theorem sn_sub : Snd2 K (rI0 fun i j => .int (i - j)) vSub := sn_int0
theorem sn_mulI : Snd2 K (rI CMulW fun i j => .int (i * j)) vMulI := sn_int fun i j z => of_decide_eq_true z
theorem sn_div : Snd2 K (rI CDivW fun i j => .int (i / j)) vDiv := sn_int fun i j z => by
  rw [Bool.and_eq_true] at z
  exact ⟨of_decide_eq_true z.1, of_decide_eq_true z.2⟩
theorem sn_mod : Snd2 K (rI (fun _ j => 0 < j) fun i j => .int (i % j)) vMod := sn_int fun i j z => of_decide_eq_true z
theorem sn_pow : Snd2 K (rI (fun i j => 0 ≤ j ∧ (Builtin.Int.intBits i : Int) * j ≤ 2 ^ 27) fun i j => .int (i ^ j.toNat)) vPow := sn_int fun i j z => by
  rw [Bool.and_eq_true] at z
  exact ⟨of_decide_eq_true z.1, of_decide_eq_true z.2⟩
def eU (f : F1) (a : EM) : EM := fun t h => (a t h).bind fun x h1 => f x h1
theorem w_un {op : UnaryOp} {r : V → Hp → VK → Prop} {f : F1} {a : Expr} {ma : EM} {pos : Pos} (ho : UnR X (unaryOp op) r) (hs : Snd1 X.K r f) (ha : PEm X W a ma) : PEm X W (.UnaryOp op a pos) (eU f ma) := by
  refine PE_imp (pe_un ho ha) fun s H Q q => ?_
  obtain ⟨as, h, t, rh, rs, q⟩ := q
  refine ⟨as, h, t, rh, rs, (Post.bind (R := Rep X.K) q).mono fun v H1 z => ?_⟩
  obtain ⟨as1, h1, p, x1, r1, e1, q1⟩ := z
  exact hs r1 e1 q1
def vNeg : F1 := fun p h => match p with
  | .int i => .ok (.int (-i)) h
  | _ => .bad
theorem sn_neg : Snd1 K (rU fun i => .int (-i)) vNeg := fun {W s as h H p v Q} rh rp z => by
  unfold vNeg at z
  split at z
  · cases rp
    exact ⟨_, rfl, Post.done z (Ext.refl _ _) rh rfl⟩
  · exact z.elim

/-! ### new tuples and lists -/
theorem tupAt_new {as : List Addr} {h : AH} {H : Hp} {p : Addr} {vs : List V} (rh : RelH K as h H) (e : H p = none) : TupAt K as (upd H p (.tup vs)) p vs := .inl ⟨rh.new e, .inl upd_same⟩
theorem rep_tup {as : List Addr} {h : AH} {H : Hp} {p : Addr} {xs : List P} {vs : List V} (rh : RelH K as h H) (e : H p = none) (r : Reps K as H xs vs) : Rep K as (upd H p (.tup vs)) (.tup xs) (.ref p) := by
  unfold Rep
  exact ⟨p, vs, rfl, tupAt_new rh e, r.mono (Ext.laid rh e)⟩
theorem rep_lst {as : List Addr} {h : AH} {H : Hp} {p : Addr} {xs : List P} {vs : List V} (rh : RelH K as h H) (e : H p = none) (r : Reps K as H xs vs) : Rep K as (upd H p (.lst vs)) (.lst xs) (.ref p) := by
  unfold Rep
  exact ⟨p, vs, rfl, rh.new e, upd_same, r.mono (Ext.laid rh e)⟩
/-- a new tuple's end -/
theorem post_tup {as : List Addr} {h : AH} {H : Hp} {s : L2.St} {xs : List P} {vs : List V} {Q : VK} (rh : RelH K as h H) (r : Reps K as H xs vs) (z : Post (Rep K) K W s as H (.ok (.tup xs) h) Q) (p : Addr) (e : H p = none) : Q (.ref p) (upd H p (.tup vs)) :=
  Post.done z (Ext.laid rh e) (rh.laid e) (rep_tup rh e r)
theorem post_lst {as : List Addr} {h : AH} {H : Hp} {s : L2.St} {xs : List P} {vs : List V} {Q : VK} (rh : RelH K as h H) (r : Reps K as H xs vs) (z : Post (Rep K) K W s as H (.ok (.lst xs) h) Q) (p : Addr) (e : H p = none) : Q (.ref p) (upd H p (.lst vs)) :=
  Post.done z (Ext.laid rh e) (rh.laid e) (rep_lst rh e r)
/-- a new list that may change -/
def newL (xs : List P) (h : AH) : Out P := .ok (.obj h.length) (h ++ [.lst xs])
theorem post_new {as : List Addr} {h : AH} {H : Hp} {s : L2.St} {xs : List P} {vs : List V} {Q : VK} (rh : RelH K as h H) (r : Reps K as H xs vs) (z : Post (Rep K) K W s as H (newL xs h) Q) (p : Addr) (e : H p = none) : Q (.ref p) (upd H p (.lst vs)) := by
  have x := Ext.push (o := .lst vs) rh e
  refine Post.done z x (rh.push e ⟨vs, upd_same, r.mono x⟩) ?_
  unfold Rep
  refine ⟨p, rfl, ?_⟩
  rw [← rh.len]
  simp
/-- how a new list is held: as it is, or as an object -/
def mkL (b : Bool) (xs : List P) (h : AH) : Out P := if b = true then newL xs h else .ok (.lst xs) h
theorem post_mk {b : Bool} {as : List Addr} {h : AH} {H : Hp} {s : L2.St} {xs : List P} {vs : List V} {Q : VK} (rh : RelH K as h H) (r : Reps K as H xs vs) (z : Post (Rep K) K W s as H (mkL b xs h) Q) (p : Addr) (e : H p = none) : Q (.ref p) (upd H p (.lst vs)) := by
  cases b with
  | true => exact post_new rh r z p e
  | false => exact post_lst rh r z p e
def small (n : Nat) : Bool := decide (n ≤ 16777216)
theorem small_ok {n : Nat} (h : small n = true) : n ≤ sizeLine := by
  rw [sizeLine_eq]
  exact of_decide_eq_true h
def eTup (a : LM) : EM := fun t h => (a t h).bind fun xs h1 => if small xs.length = true then .ok (.tup xs) h1 else .bad
theorem w_tup {es : List Expr} {a : LM} {x1} {pos : Pos} (ha : PAm X W es a) : PEm X W (.Tuple es x1 pos) (eTup a) := by
  refine PE_imp (pe_tup ha) fun s H Q q => ?_
  obtain ⟨as, h, t, rh, rs, q⟩ := q
  refine ⟨as, h, t, rh, rs, (Post.bind (R := Reps X.K) q).mono fun v H1 z => ?_⟩
  obtain ⟨as1, h1, p, x1, r1, e1, q1⟩ := z
  split at q1
  · rename_i l
    exact ⟨by rw [← e1.len]; exact small_ok l, post_tup r1 e1 q1⟩
  · exact q1.elim
def eLst (b : Bool) (a : LM) : EM := fun t h => (a t h).bind fun xs h1 => if small xs.length = true then mkL b xs h1 else .bad
theorem w_lst (b : Bool) {es : List Expr} {a : LM} {pos : Pos} (ha : PAm X W es a) : PEm X W (.List es pos) (eLst b a) := by
  refine PE_imp (pe_lst ha) fun s H Q q => ?_
  obtain ⟨as, h, t, rh, rs, q⟩ := q
  refine ⟨as, h, t, rh, rs, (Post.bind (R := Reps X.K) q).mono fun v H1 z => ?_⟩
  obtain ⟨as1, h1, p, x1, r1, e1, q1⟩ := z
  split at q1
  · rename_i l
    exact ⟨by rw [← e1.len]; exact small_ok l, post_mk r1 e1 q1⟩
  · exact q1.elim
def newD (kvs : List (Key × P)) (h : AH) : Out P := .ok (.obj h.length) (h ++ [.dct kvs])
theorem post_newD {as : List Addr} {h : AH} {H : Hp} {s : L2.St} {xs : List (Key × P)} {vs : List (Key × V)} {Q : VK} (rh : RelH K as h H) (r : RepK K as H xs vs) (z : Post (Rep K) K W s as H (newD xs h) Q) (p : Addr) (e : H p = none) : Q (.ref p) (upd H p (.dK vs)) := by
  have x := Ext.push (o := .dK vs) rh e
  have r2 := r.mono x
  refine Post.done z x (rh.push e ⟨vs, upd_same, r2.1, r2.2⟩) ?_
  unfold Rep
  refine ⟨p, rfl, ?_⟩
  rw [← rh.len]
  simp
def eD0 : EM := fun _ h => newD [] h
theorem w_dict0 {pos : Pos} : PEm X W (.Dict [] [] pos) eD0 := PE_imp pe_dnewK fun s H Q q => by
  obtain ⟨as, h, t, rh, rs, q⟩ := q
  exact post_newD rh repK_nil q
/-- *e among arguments -/
def lS (m : EM) (r : LM) : LM := fun t h => (m t h).bind fun p h1 => match p with
  | .tup xs => (r t h1).bind fun ys h2 => .ok (xs ++ ys) h2
  | .lst xs => (r t h1).bind fun ys h2 => .ok (xs ++ ys) h2
  | .obj n => (match h1[n]? with
    | some (.lst xs) => (r t h1).bind fun ys h2 => .ok (xs ++ ys) h2
    | _ => .bad)
  | _ => .bad
theorem wa_star {e : Expr} {es : List Expr} {m : EM} {r : LM} {p : Pos} (he : PEm X W e m) (hr : PAm X W es r) (hs : starEach (.Starred e p :: es) X.env = (true, eval e X.env) :: starEach es X.env := by rfl) : PAm X W (.Starred e p :: es) (lS m r) := by
  refine PA_imp (StX.pa_star he hr hs) fun s H Q q => ?_
  obtain ⟨as, h, t, rh, rs, q⟩ := q
  refine ⟨as, h, t, rh, rs, (Post.bind (R := Rep X.K) q).mono fun v H1 z => ?_⟩
  obtain ⟨as1, h1, x, x1, r1, e1, q1⟩ := z
  have rest : ∀ {xs : List P} {vs : List V}, Reps X.K as1 H1 xs vs → Post (Reps X.K) X.K W s as1 H1 ((r t h1).bind fun ys h2 => .ok (xs ++ ys) h2) Q → TAm X.K W r s H1 fun ys H2 => Q (vs ++ ys) H2 := by
    intro xs vs rv q2
    refine ⟨as1, h1, t, r1, rs.mono x1, (Post.bind (R := Reps X.K) q2).mono fun ws H2 z => ?_⟩
    obtain ⟨as2, h2, ys, x2, r2, e2, q3⟩ := z
    exact Post.done q3 (Ext.refl _ _) r2 ((rv.mono x2).app e2)
  split at q1
  · unfold Rep at e1
    obtain ⟨a, vs, rfl, ta, rv⟩ := e1
    exact ⟨a, vs, rfl, .inl ta.sq, rest rv q1⟩
  · unfold Rep at e1
    obtain ⟨a, vs, rfl, _, ta, rv⟩ := e1
    exact ⟨a, vs, rfl, .inr (.of ta), rest rv q1⟩
  · unfold Rep at e1
    obtain ⟨a, rfl, ea⟩ := e1
    split at q1
    · rename_i xs z
      obtain ⟨vs, h3, h4⟩ := r1.obj z ea
      exact ⟨a, vs, rfl, .inr (.of h3), rest h4 q1⟩
    · exact q1.elim
  · exact q1.elim

/-! ### + and * -/
def vAddS : F2 := fun p q h => match p, q with
  | .str x, .str y => if small (x.length + y.length) = true then .ok (.str (x ++ y)) h else .bad
  | _, _ => .bad
def rAddS : R2 := fun x y H Q => ∃ i j, x = .str i ∧ y = .str j ∧ i.length + j.length ≤ sizeLine ∧ Q (.str (i ++ j)) H
theorem sn_addS : Snd2 K rAddS vAddS := fun {W s as h H p q v w Q} rh rp rq z => by
  unfold vAddS at z
  split at z
  · split at z
    · rename_i l
      cases rp
      cases rq
      exact ⟨_, _, rfl, rfl, small_ok l, Post.done z (Ext.refl _ _) rh rfl⟩
    · exact z.elim
  · exact z.elim
def vAddT : F2 := fun p q h => match p, q with
  | .tup xs, .tup ys => if small (xs.length + ys.length) = true then .ok (.tup (xs ++ ys)) h else .bad
  | _, _ => .bad
theorem sn_addT : Snd2 K (rCatA K) vAddT := fun {W s as h H p q v w Q} rh rp rq z => by
  unfold vAddT at z
  split at z
  · rename_i xs ys
    split at z
    · rename_i l
      have rp0 := rp
      have rq0 := rq
      unfold Rep at rp rq
      obtain ⟨a, vs, rfl, ta, ra⟩ := rp
      obtain ⟨b, ws, rfl, tb, rb⟩ := rq
      refine ⟨a, b, vs, ws, rfl, rfl, ta.sq, tb.sq, by rw [← ra.len, ← rb.len]; exact small_ok l, fun e => ?_, fun _ e => ?_, fun _ _ p e => post_tup rh (ra.app rb) z p e⟩
      · have ex : xs = [] := by
          have := ra.len
          rw [e] at this
          exact List.eq_nil_of_length_eq_zero this
        subst ex
        exact Post.done z (Ext.refl _ _) rh (by simpa using rq0)
      · have ex : ys = [] := by
          have := rb.len
          rw [e] at this
          exact List.eq_nil_of_length_eq_zero this
        subst ex
        exact Post.done z (Ext.refl _ _) rh (by simpa using rp0)
    · exact z.elim
  · exact z.elim
/-- what a list holds, of either kind -/
def lstOf (h : AH) : P → Option (List P)
  | .lst xs => some xs
  | .obj n => match h[n]? with
    | some (.lst xs) => some xs
    | _ => none
  | _ => none
theorem lstOf_ok {as : List Addr} {h : AH} {H : Hp} {p : P} {v : V} {xs : List P} (rh : RelH K as h H) (r : Rep K as H p v) (e : lstOf h p = some xs) : ∃ a vs, v = .ref a ∧ H a = some (.lst vs) ∧ Reps K as H xs vs := by
  cases p with
  | lst ys =>
    cases e
    unfold Rep at r
    obtain ⟨a, vs, rfl, _, h1, h2⟩ := r
    exact ⟨a, vs, rfl, h1, h2⟩
  | obj n =>
    have e : (match h[n]? with
      | some (.lst xs) => some xs
      | _ => none) = some xs := e
    unfold Rep at r
    obtain ⟨a, rfl, ea⟩ := r
    split at e
    · rename_i ys z
      cases e
      obtain ⟨vs, h1, h2⟩ := rh.obj z ea
      exact ⟨a, vs, rfl, h1, h2⟩
    · cases e
  | non => cases e
  | bl _ => cases e
  | int _ => cases e
  | str _ => cases e
  | tup _ => cases e
  | cls _ => cases e
  | scr _ => cases e
def vAddL (b : Bool) : F2 := fun p q h => match lstOf h p, lstOf h q with
  | some xs, some ys => if small (xs.length + ys.length) = true then mkL b (xs ++ ys) h else .bad
  | _, _ => .bad
theorem sn_addL {b : Bool} : Snd2 K rCat (vAddL b) := fun {W s as h H p q v w Q} rh rp rq z => by
  unfold vAddL at z
  split at z
  · rename_i xs ys z1 z2
    split at z
    · rename_i l
      obtain ⟨a, vs, rfl, h1, h2⟩ := lstOf_ok rh rp z1
      obtain ⟨c, ws, rfl, h3, h4⟩ := lstOf_ok rh rq z2
      exact ⟨a, c, vs, ws, rfl, rfl, h1, h3, by rw [← h2.len, ← h4.len]; exact small_ok l, fun p e => post_mk rh (h2.app h4) z p e⟩
    · exact z.elim
  · exact z.elim
def rAddA (K : PySem.W.Frag) : R2 := fun x y H Q => ((rI0 (fun i j => .int (i + j)) x y H Q ∨ rAddS x y H Q) ∨ rCatA K x y H Q) ∨ rCat x y H Q
theorem or_add : OpR X (binaryOp .Add) (rAddA X.K) := ((op_add.or op_add_str).or op_catA).or op_cat
/-- b: whether a new list may change -/
def vAdd (b : Bool) : F2 := orF2 (orF2 (orF2 (vInt0 fun i j => i + j) vAddS) vAddT) (vAddL b)
theorem sn_add {b : Bool} : Snd2 K (rAddA K) (vAdd b) := Snd2.or (Snd2.or (Snd2.or sn_int0 sn_addS) sn_addT) sn_addL
def vMulT : F2 := fun p q h => match p, q with
  | .tup xs, .int k => if xs.isEmpty = false ∧ 2 ≤ k ∧ k ≤ 1000 ∧ xs.length ≤ 1000 then .ok (.tup (List.replicate k.toNat xs).flatten) h else .bad
  | _, _ => .bad
theorem sn_mulT : Snd2 K (rRepT K) vMulT := fun {W s as h H p q v w Q} rh rp rq z => by
  unfold vMulT at z
  split at z
  · rename_i xs k
    split at z
    · rename_i l
      unfold Rep at rp
      obtain ⟨a, vs, rfl, ta, ra⟩ := rp
      cases rq
      refine ⟨a, k, vs, rfl, rfl, ta.sq, ?_, l.2.1, l.2.2.1, by rw [← ra.len]; exact l.2.2.2, fun p e => post_tup rh (ra.rep _) z p e⟩
      intro e
      have := ra.len
      rw [e] at this
      have z := List.eq_nil_of_length_eq_zero this
      rw [z] at l
      exact absurd l.1 (by simp)
    · exact z.elim
  · exact z.elim
end
end AM

/-! AM10: subscripts, slices, built-in calls and methods. -/
namespace AM
open PySem PySem.Spec PyProof.Rows L2
noncomputable section
variable {X : Cx} {W : WX} {K : PySem.W.Frag}

/-! ### subscripts -/
theorem PE_two {e : Expr} {t t1 t2 : TE} (h1 : PE X e t1) (h2 : PE X e t2) (i : ∀ s H Q, t s H Q → t1 s H Q ∨ t2 s H Q) : PE X e t := ⟨fun pins s σ H Q I q => by
  rcases i _ _ _ q with q | q
  · exact h1.run pins s σ H Q I q
  · exact h2.run pins s σ H Q I q⟩
theorem Reps.at {as : List Addr} {H : Hp} {xs : List P} {vs : List V} {i : Int} {p : P} (r : Reps K as H xs vs) (e : atI xs i = some p) : ∃ v, atI vs i = some v ∧ Rep K as H p v := by
  unfold atI at e ⊢
  rw [← r.len]
  cases z : ixN xs.length i with
  | none => rw [z] at e; cases e
  | some j =>
    rw [z] at e
    exact r.get e
def isDct (h : AH) : P → Bool
  | .obj n => match h[n]? with
    | some (.dct _) => true
    | _ => false
  | _ => false
/-- items of lists, tuples, texts -/
def itemS : F2 := fun x y h => match y with
  | .int i => (match x with
    | .tup xs => match atI xs i with
      | some p => .ok p h
      | none => .bad
    | .scr xs => match atI xs i with
      | some p => .ok p h
      | none => .bad
    | .str z => if small z.length = true then (match atI z.cps.toList i with
      | some c => .ok (.str ⟨#[c]⟩) h
      | none => .bad) else .bad
    | x => match lstOf h x with
      | some xs => (match atI xs i with
        | some p => .ok p h
        | none => .bad)
      | none => .bad)
  | _ => .bad
def itemD : F2 := fun x y h => match x with
  | .obj n => (match h[n]? with
    | some (.dct kvs) => (match keyOf y with
      | some k => (match getP kvs k with
        | some p => .ok p h
        | none => .bad)
      | none => .bad)
    | _ => .bad)
  | _ => .bad
def itemP : F2 := fun x y h => if isDct h x = true then itemD x y h else itemS x y h
theorem sn_itemS : Snd2 K (rIx K) itemS := fun {W s as h H p q v w Q} rh rp rq z => by
  have fin : ∀ {p : P} {u : V}, Rep K as H p u → Post (Rep K) K W s as H (.ok p h) Q → Q u H := fun r z => Post.done z (Ext.refl _ _) rh r
  cases q with
  | int i =>
    cases rq
    have lists : ∀ {xs : List P}, lstOf h p = some xs → Post (Rep K) K W s as H (match atI xs i with
        | some p => .ok p h
        | none => .bad) Q → rIx K v (.int i) H Q := by
      intro xs e z
      obtain ⟨a, vs, rfl, h1, h2⟩ := lstOf_ok rh rp e
      split at z
      · rename_i x hx
        obtain ⟨u, h3, h4⟩ := h2.at hx
        exact .inl ⟨a, vs, i, u, rfl, rfl, .of h1, h3, fin h4 z⟩
      · exact z.elim
    cases p with
    | tup xs =>
      unfold Rep at rp
      obtain ⟨a, vs, rfl, h1, h2⟩ := rp
      have z : Post (Rep K) K W s as H (match atI xs i with
        | some p => .ok p h
        | none => .bad) Q := z
      split at z
      · rename_i x hx
        obtain ⟨u, h3, h4⟩ := h2.at hx
        exact .inr (.inl ⟨a, vs, i, u, rfl, rfl, h1.sq, h3, fin h4 z⟩)
      · exact z.elim
    | scr xs =>
      unfold Rep at rp
      obtain ⟨a, vs, o, rfl, _, h1, h2⟩ := rp
      have z : Post (Rep K) K W s as H (match atI xs i with
        | some p => .ok p h
        | none => .bad) Q := z
      split at z
      · rename_i x hx
        obtain ⟨u, h3, h4⟩ := h2.at hx
        exact .inl ⟨a, vs, i, u, rfl, rfl, .inl (.inr ⟨o, h1⟩), h3, fin h4 z⟩
      · exact z.elim
    | str y =>
      cases rp
      have z : Post (Rep K) K W s as H (if small y.length = true then (match atI y.cps.toList i with
      | some c => .ok (.str ⟨#[c]⟩) h
      | none => .bad) else .bad) Q := z
      split at z
      · rename_i l
        split at z
        · rename_i c hc
          exact .inr (.inr ⟨y, i, c, rfl, rfl, small_ok l, hc, fin (p := .str ⟨#[c]⟩) (by unfold Rep; rfl) z⟩)
        · exact z.elim
      · exact z.elim
    | lst xs => exact lists rfl z
    | obj n =>
      have z : Post (Rep K) K W s as H (match lstOf h (.obj n) with
        | some xs => (match atI xs i with
          | some p => .ok p h
          | none => .bad)
        | none => .bad) Q := z
      split at z
      · rename_i xs e
        exact lists e z
      · exact z.elim
    | non => exact z.elim
    | bl _ => exact z.elim
    | int _ => exact z.elim
    | cls _ => exact z.elim
  | non => exact z.elim
  | bl _ => exact z.elim
  | str _ => exact z.elim
  | tup _ => exact z.elim
  | lst _ => exact z.elim
  | obj _ => exact z.elim
  | cls _ => exact z.elim
  | scr _ => exact z.elim
theorem w_ix {k : Nat} {a b : Expr} {ma mb : EM} {pos : Pos} (hk : Here X k) (ha : PEm X W a ma) (hb : PEm X W b mb) (hs : PlainIx b := by exact fun _ _ => rfl) : PEm X W (.Subscript a b pos) (eB itemP ma mb) := by
  refine PE_two (pe_ix ix_seq ha hb hs) (pe_dget (hu_of hk.room) ha hb hs) fun s H Q q => ?_
  obtain ⟨as, h, t, rh, rs, q⟩ := q
  by_cases hd : ∃ x h1 y h2, ma t h = .ok x h1 ∧ mb t h1 = .ok y h2 ∧ isDct h2 x = true
  · obtain ⟨x, h1, y, h2, e1, e2, e3⟩ := hd
    refine .inr ⟨as, h, t, rh, rs, ?_⟩
    have q1 : Post (Rep X.K) X.K W s as H (itemD x y h2) Q := by
      have z : eB itemP ma mb t h = itemD x y h2 := by simp [eB, Out.bind, itemP, e1, e2, e3]
      rw [← z]
      exact q
    rw [e1]
    intro as1 H1 v x1 r1 p1
    refine ⟨as1, h1, t, r1, rs.mono x1, ?_⟩
    rw [e2]
    intro as2 H2 w x2 r2 p2
    have q2 := Post.ext q1 (x1.trans x2)
    unfold itemD at q2
    split at q2
    · rename_i n
      have p1' := p1.mono x2
      unfold Rep at p1'
      obtain ⟨ad, rfl, ea⟩ := p1'
      split at q2
      · rename_i kvs z
        obtain ⟨ws, g1, g2⟩ := r2.obj z ea
        split at q2
        · rename_i kk hkk
          have ew := keyOf_ok p2 hkk
          subst ew
          split at q2
          · rename_i p hp
            obtain ⟨u, g3, g4⟩ := (RepK.get kk (show RepK X.K as2 H2 kvs ws from g2)).1 p hp
            refine ⟨ad, u, rfl, ?_, Post.done q2 (Ext.refl _ _) r2 g4⟩
            rw [← g3]
            exact DGet.k g1
          · exact q2.elim
        · exact q2.elim
      · exact q2.elim
    · exact q2.elim
  · refine .inl (two_post (W := W) (f := itemS) sn_itemS ⟨as, h, t, rh, rs, ?_⟩)
    have z : eB itemS ma mb t h = eB itemP ma mb t h := by
      unfold eB
      cases e1 : ma t h with
      | bad => rfl
      | exc c p h1 => rfl
      | ok x h1 =>
        show ((mb t h1).bind fun y h2 => itemS x y h2) = ((mb t h1).bind fun y h2 => itemP x y h2)
        cases e2 : mb t h1 with
        | bad => rfl
        | exc c p h1 => rfl
        | ok y h2 =>
          show itemS x y h2 = itemP x y h2
          unfold itemP
          rw [if_neg]
          intro e3
          exact hd ⟨x, h1, y, h2, e1, e2, e3⟩
    rw [z]
    exact q

/-! ### slices -/
abbrev OM := AM.Loc → AH → Out (Option Int)
abbrev POm (X : Cx) (W : WX) (e : Option Expr) (m : OM) : Prop := PO X e (TG_ (fun _ _ a b => a = b) X.K W m)
theorem PO_imp {e : Option Expr} {t t' : TO} (h : PO X e t) (i : ∀ s H Q, t' s H Q → t s H Q) : PO X e t' := ⟨fun pins s σ H Q I q => h.run pins s σ H Q I (i _ _ _ q)⟩
def oN : OM := fun _ h => .ok none h
theorem wo_none : POm X W none oN := PO_imp po_none fun s H Q q => by
  obtain ⟨as, h, t, rh, rs, q⟩ := q
  exact Post.done (R := fun _ _ a b => a = b) q (Ext.refl _ _) rh rfl
def oS (m : EM) : OM := fun t h => (m t h).bind fun p h1 => match p with
  | .int i => .ok (some i) h1
  | _ => .bad
theorem wo_some {e : Expr} {m : EM} (he : PEm X W e m) : POm X W (some e) (oS m) := by
  refine PO_imp (po_some he) fun s H Q q => ?_
  obtain ⟨as, h, t, rh, rs, q⟩ := q
  refine ⟨as, h, t, rh, rs, (Post.bind (R := Rep X.K) q).mono fun v H1 z => ?_⟩
  obtain ⟨as1, h1, p, x1, r1, e1, q1⟩ := z
  split at q1
  · cases e1
    exact ⟨_, rfl, Post.done (R := fun _ _ a b => a = b) q1 (Ext.refl _ _) r1 rfl⟩
  · exact q1.elim
def cutP (xs : List P) (lo hi : Option Int) : List P := (xs.drop (HT.sIx xs.length 0 lo)).take (HT.sIx xs.length xs.length hi - HT.sIx xs.length 0 lo)
theorem Reps.cut {as : List Addr} {H : Hp} {xs : List P} {vs : List V} (r : Reps K as H xs vs) (lo hi : Option Int) : Reps K as H (cutP xs lo hi) (cutV vs lo hi) := by
  unfold cutP cutV
  rw [← r.len]
  exact (r.drop _).take _
def sliceP (b : Bool) (x : P) (lo hi : Option Int) (h : AH) : Out P := match x with
  | .tup xs => .ok (.tup (cutP xs lo hi)) h
  | .str z => if small z.length = true then .ok (.str (cutS z lo hi)) h else .bad
  | .scr xs => mkL b (cutP xs lo hi) h
  | x => match lstOf h x with
    | some xs => mkL b (cutP xs lo hi) h
    | none => .bad
def rSlAll (K : PySem.W.Frag) : V → Option Int → Option Int → Hp → VK → Prop := fun x lo hi H Q => (rSlA K x lo hi H Q ∨ rSlS x lo hi H Q) ∨ rSlL K x lo hi H Q
theorem sl_all : SlR X (rSlAll X.K) := (sl_tupA.or sl_str).or sl_list
theorem slice_ok {b : Bool} {s : L2.St} {as : List Addr} {h : AH} {H : Hp} {p : P} {v : V} {lo hi : Option Int} {Q : VK} (rh : RelH K as h H) (rp : Rep K as H p v) (z : Post (Rep K) K W s as H (sliceP b p lo hi h) Q) : rSlAll K v lo hi H Q := by
  have lists : ∀ {xs : List P}, lstOf h p = some xs → Post (Rep K) K W s as H (mkL b (cutP xs lo hi) h) Q → rSlAll K v lo hi H Q := by
    intro xs e z
    obtain ⟨a, vs, rfl, h1, h2⟩ := lstOf_ok rh rp e
    exact .inr ⟨a, vs, rfl, .of h1, fun p e => post_mk rh (h2.cut lo hi) z p e⟩
  cases p with
  | tup xs =>
    have rp0 := rp
    unfold Rep at rp
    obtain ⟨a, vs, rfl, h1, h2⟩ := rp
    refine .inl (.inl ⟨a, vs, h1.sq |> fun _ => rfl, h1.sq, fun e => ?_, fun _ p e => post_tup rh (h2.cut lo hi) z p e⟩)
    have ez : cutP xs lo hi = xs := by
      unfold cutP
      rw [← h2.len] at e
      rw [e.1, e.2]
      simp
    have z : Post (Rep K) K W s as H (.ok (.tup (cutP xs lo hi)) h) Q := z
    rw [ez] at z
    exact Post.done z (Ext.refl _ _) rh rp0
  | str y =>
    cases rp
    have z : Post (Rep K) K W s as H (if small y.length = true then .ok (.str (cutS y lo hi)) h else .bad) Q := z
    split at z
    · rename_i l
      exact .inl (.inr ⟨y, rfl, small_ok l, Post.done z (Ext.refl _ _) rh rfl⟩)
    · exact z.elim
  | scr xs =>
    unfold Rep at rp
    obtain ⟨a, vs, o, rfl, _, h1, h2⟩ := rp
    exact .inr ⟨a, vs, rfl, .inl (.inr ⟨o, h1⟩), fun p e => post_mk rh (h2.cut lo hi) z p e⟩
  | lst xs => exact lists rfl z
  | obj n =>
    have z : Post (Rep K) K W s as H (match lstOf h (.obj n) with
      | some xs => mkL b (cutP xs lo hi) h
      | none => .bad) Q := z
    split at z
    · rename_i xs e
      exact lists e z
    · exact z.elim
  | non => exact z.elim
  | bl _ => exact z.elim
  | int _ => exact z.elim
  | cls _ => exact z.elim
def eSlice (b : Bool) (m : EM) (lo hi : OM) : EM := fun t h => (m t h).bind fun x h1 => (lo t h1).bind fun l h2 => (hi t h2).bind fun u h3 => sliceP b x l u h3
theorem w_slice (b : Bool) {e : Expr} {lo hi : Option Expr} {m : EM} {ml mh : OM} {pos p2 : Pos} (he : PEm X W e m) (hl : POm X W lo ml) (hh : POm X W hi mh) : PEm X W (.Subscript e (.Slice lo hi none p2) pos) (eSlice b m ml mh) := by
  refine PE_imp (pe_slice sl_all he hl hh) fun s H Q q => ?_
  obtain ⟨as, h, t, rh, rs, q⟩ := q
  refine ⟨as, h, t, rh, rs, (Post.bind (R := Rep X.K) q).mono fun v H1 z => ?_⟩
  obtain ⟨as1, h1, p, x1, r1, e1, q1⟩ := z
  refine ⟨as1, h1, t, r1, rs.mono x1, (Post.bind (R := fun _ _ a b => a = b) q1).mono fun l H2 z => ?_⟩
  obtain ⟨as2, h2, l', x2, r2, e2, q2⟩ := z
  subst e2
  refine ⟨as2, h2, t, r2, rs.mono (x1.trans x2), (Post.bind (R := fun _ _ a b => a = b) q2).mono fun u H3 z => ?_⟩
  obtain ⟨as3, h3, u', x3, r3, e3, q3⟩ := z
  subst e3
  exact slice_ok r3 (e1.mono (x2.trans x3)) q3

/-! ### built-in calls -/
def eCB (f : FL) (a : LM) : EM := fun t h => (a t h).bind fun xs h1 => f xs h1
theorem callB_post {a : LM} {f : FL} {r : List V → Hp → VK → Prop} {s : L2.St} {H : Hp} {Q : VK} (hs : SndL X.K r f) (q : TEm X.K W (eCB f a) s H Q) : tCB r (TAm X.K W a) s H Q := by
  obtain ⟨as, h, t, rh, rs, q⟩ := q
  refine ⟨as, h, t, rh, rs, (Post.bind (R := Reps X.K) q).mono fun v H1 z => ?_⟩
  obtain ⟨as1, h1, p, x1, r1, e1, q1⟩ := z
  exact hs r1 e1 q1
theorem w_callB {id : String} {x : Str} {r : List V → Hp → VK → Prop} {f : FL} {e : Expr} {es : List Expr} {a : LM} {p pos : Pos} (hc : CallR X (.builtin id) r) (hs : SndL X.K r f) (hm : X.mg x = none) (hv : bootBuiltins x = some (.builtin id)) (ha : PAm X W (e :: es) a) (hg : Gl X x := by rfl)
    (hn : x ≠ "__name__" := by decide) (hd : (x == ("__debug__" : Str)) = false := by decide) (he : starEach (e :: es) X.env = (false, eval e X.env) :: starEach es X.env := by rfl) (hpl : (backTo pos (starEach es X.env)).any (·.1) = false := by rfl) :
    PEm X W (.Call (.Name x p) (e :: es) [] pos) (eCB f a) := PE_imp (pe_callB hc hg hm hv ha hn hd he hpl) fun s H Q q => callB_post hs q
theorem w_callTy {T : String} {x : Str} {r : List V → Hp → VK → Prop} {f : FL} {e : Expr} {es : List Expr} {a : LM} {p pos : Pos} (hc : CallR X (.type T) r) (hs : SndL X.K r f) (hm : X.mg x = none) (hv : bootBuiltins x = some (.type T)) (ha : PAm X W (e :: es) a) (hg : Gl X x := by rfl)
    (hn : x ≠ "__name__" := by decide) (hd : (x == ("__debug__" : Str)) = false := by decide) (he : starEach (e :: es) X.env = (false, eval e X.env) :: starEach es X.env := by rfl) (hpl : (backTo pos (starEach es X.env)).any (·.1) = false := by rfl) :
    PEm X W (.Call (.Name x p) (e :: es) [] pos) (eCB f a) := PE_imp (pe_callTy hc hg hm hv ha hn hd he hpl) fun s H Q q => callB_post hs q
def fAbs : FL := fun xs h => match xs with
  | [.int i] => .ok (.int (if i < 0 then -i else i)) h
  | _ => .bad
theorem reps1 {as : List Addr} {H : Hp} {p : P} {vs : List V} (r : Reps K as H [p] vs) : ∃ v, vs = [v] ∧ Rep K as H p v := by
  obtain ⟨v, r', rfl, h1, h2⟩ := reps_inv r
  rw [reps_inv0 h2]
  exact ⟨v, rfl, h1⟩
theorem reps2 {as : List Addr} {H : Hp} {p q : P} {vs : List V} (r : Reps K as H [p, q] vs) : ∃ v w, vs = [v, w] ∧ Rep K as H p v ∧ Rep K as H q w := by
  obtain ⟨v, r', rfl, h1, h2⟩ := reps_inv r
  obtain ⟨w, rfl, h3⟩ := reps1 h2
  exact ⟨v, w, rfl, h1, h3⟩
theorem sn_abs : SndL K (fun xs H Q => ∃ i, xs = [.int i] ∧ Q (.int (if i < 0 then -i else i)) H) fAbs := fun {W s as h H p v Q} rh rp z => by
  unfold fAbs at z
  split at z
  · obtain ⟨v, rfl, r⟩ := reps1 rp
    cases r
    exact ⟨_, rfl, Post.done z (Ext.refl _ _) rh rfl⟩
  · exact z.elim
def fMax : FL := fun xs h => match xs with
  | [.int i, .int j] => .ok (.int (if j > i then j else i)) h
  | _ => .bad
def fMin : FL := fun xs h => match xs with
  | [.int i, .int j] => .ok (.int (if j < i then j else i)) h
  | _ => .bad
theorem sn_max : SndL K (fun xs H Q => ∃ i j, xs = [.int i, .int j] ∧ Q (.int (if j > i then j else i)) H) fMax := fun {W s as h H p v Q} rh rp z => by
  unfold fMax at z
  split at z
  · obtain ⟨v, w, rfl, r1, r2⟩ := reps2 rp
    cases r1
    cases r2
    exact ⟨_, _, rfl, Post.done z (Ext.refl _ _) rh rfl⟩
  · exact z.elim
theorem sn_min : SndL K (fun xs H Q => ∃ i j, xs = [.int i, .int j] ∧ Q (.int (if j < i then j else i)) H) fMin := fun {W s as h H p v Q} rh rp z => by
  unfold fMin at z
  split at z
  · obtain ⟨v, w, rfl, r1, r2⟩ := reps2 rp
    cases r1
    cases r2
    exact ⟨_, _, rfl, Post.done z (Ext.refl _ _) rh rfl⟩
  · exact z.elim
/-- a sequence that may be read: list, tuple, script -/
def seqOf (h : AH) : P → Option (List P)
  | .tup xs => some xs
  | .scr xs => some xs
  | p => lstOf h p
theorem seqOf_ok {as : List Addr} {h : AH} {H : Hp} {p : P} {v : V} {xs : List P} (rh : RelH K as h H) (r : Rep K as H p v) (e : seqOf h p = some xs) : ∃ a vs, v = .ref a ∧ (SqL K H a vs ∨ SqT K H a vs) ∧ Reps K as H xs vs := by
  cases p with
  | tup ys =>
    cases e
    unfold Rep at r
    obtain ⟨a, vs, rfl, h1, h2⟩ := r
    exact ⟨a, vs, rfl, .inr h1.sq, h2⟩
  | scr ys =>
    cases e
    unfold Rep at r
    obtain ⟨a, vs, o, rfl, _, h1, h2⟩ := r
    exact ⟨a, vs, rfl, .inl (.inl (.inr ⟨o, h1⟩)), h2⟩
  | lst ys => obtain ⟨a, vs, h0, h1, h2⟩ := lstOf_ok rh r e; exact ⟨a, vs, h0, .inl (.of h1), h2⟩
  | obj n => obtain ⟨a, vs, h0, h1, h2⟩ := lstOf_ok rh r e; exact ⟨a, vs, h0, .inl (.of h1), h2⟩
  | non => cases e
  | bl _ => cases e
  | int _ => cases e
  | str _ => cases e
  | cls _ => cases e
/-- tuple(..) of a sequence, of a dict's keys -/
def dctOf (h : AH) : P → Option (List (Key × P))
  | .obj n => match h[n]? with
    | some (.dct kvs) => some kvs
    | _ => none
  | _ => none
theorem dctOf_ok {as : List Addr} {h : AH} {H : Hp} {p : P} {v : V} {kvs : List (Key × P)} (rh : RelH K as h H) (r : Rep K as H p v) (e : dctOf h p = some kvs) : ∃ a ws, v = .ref a ∧ H a = some (.dK ws) ∧ RepK K as H kvs ws := by
  cases p with
  | obj n =>
    have e : (match h[n]? with
      | some (.dct kvs) => some kvs
      | _ => none) = some kvs := e
    unfold Rep at r
    obtain ⟨a, rfl, ea⟩ := r
    split at e
    · rename_i ys z
      cases e
      obtain ⟨vs, h1, h2⟩ := rh.obj z ea
      exact ⟨a, vs, rfl, h1, h2⟩
    · cases e
  | non => cases e
  | bl _ => cases e
  | int _ => cases e
  | str _ => cases e
  | tup _ => cases e
  | lst _ => cases e
  | cls _ => cases e
  | scr _ => cases e
def fLen : FL := fun xs h => match xs with
  | [.str z] => if small z.length = true then .ok (.int z.length) h else .bad
  | [p] => (match seqOf h p with
    | some xs => .ok (.int xs.length) h
    | none => (match dctOf h p with
      | some kvs => .ok (.int kvs.length) h
      | none => .bad))
  | _ => .bad
def rLenA (K : PySem.W.Frag) : List V → Hp → VK → Prop := fun xs H Q => ((∃ p ys, xs = [.ref p] ∧ (SqL K H p ys ∨ SqT K H p ys) ∧ Q (.int ys.length) H) ∨ (∃ z, xs = [.str z] ∧ z.length ≤ sizeLine ∧ Q (.int z.length) H)) ∨ (∃ a kvs, xs = [V.ref a] ∧ H a = some (.dK kvs) ∧ Q (.int kvs.length) H)
theorem cr_len : CallR X (.builtin "len") (rLenA X.K) := (call_len_seq.or call_len_str).or L2.call_lenD
theorem sn_len : SndL K (rLenA K) fLen := fun {W s as h H p v Q} rh rp z => by
  unfold fLen at z
  split at z
  · obtain ⟨v, rfl, r⟩ := reps1 rp
    cases r
    split at z
    · rename_i l
      exact .inl (.inr ⟨_, rfl, small_ok l, Post.done z (Ext.refl _ _) rh rfl⟩)
    · exact z.elim
  · obtain ⟨v, rfl, r⟩ := reps1 rp
    split at z
    · rename_i xs e
      obtain ⟨a, vs, rfl, h1, h2⟩ := seqOf_ok rh r e
      refine .inl (.inl ⟨a, vs, rfl, h1, ?_⟩)
      rw [← h2.len]
      exact Post.done z (Ext.refl _ _) rh rfl
    · split at z
      · rename_i kvs e
        obtain ⟨a, ws, rfl, h1, h2⟩ := dctOf_ok rh r e
        refine .inr ⟨a, ws, rfl, h1, ?_⟩
        rw [← h2.len]
        exact Post.done z (Ext.refl _ _) rh rfl
      · exact z.elim
  · exact z.elim
/-- the bools of a list -/
def boolsOf : List P → Option (List Bool)
  | [] => some []
  | .bl b :: r => (boolsOf r).map (b :: ·)
  | _ :: _ => none
theorem boolsOf_ok {as : List Addr} {H : Hp} : ∀ {xs : List P} {vs : List V} {bs : List Bool}, Reps K as H xs vs → boolsOf xs = some bs → vs = bs.map V.bl
  | [], _, _, r, e => by
    cases e
    exact reps_inv0 r
  | .bl b :: xs, _, _, r, e => by
    obtain ⟨v, vr, rfl, h1, h2⟩ := reps_inv r
    unfold boolsOf at e
    obtain ⟨bs, e1, e2⟩ := Option.map_eq_some_iff.mp e
    subst e2
    cases h1
    rw [boolsOf_ok h2 e1]
    rfl
  | .non :: _, _, _, _, e => by cases e
  | .int _ :: _, _, _, _, e => by cases e
  | .str _ :: _, _, _, _, e => by cases e
  | .tup _ :: _, _, _, _, e => by cases e
  | .lst _ :: _, _, _, _, e => by cases e
  | .obj _ :: _, _, _, _, e => by cases e
  | .cls _ :: _, _, _, _, e => by cases e
  | .scr _ :: _, _, _, _, e => by cases e
def fAll : FL := fun xs h => match xs with
  | [p] => (match (lstOf h p).bind boolsOf with
    | some bs => .ok (.bl (bs.all id)) h
    | none => .bad)
  | _ => .bad
def fAny : FL := fun xs h => match xs with
  | [p] => (match (lstOf h p).bind boolsOf with
    | some bs => .ok (.bl (bs.any id)) h
    | none => .bad)
  | _ => .bad
theorem sn_all : SndL K (rAll K) fAll := fun {W s as h H p v Q} rh rp z => by
  unfold fAll at z
  split at z
  · obtain ⟨v, rfl, r⟩ := reps1 rp
    split at z
    · rename_i bs e
      obtain ⟨xs, e1, e2⟩ := Option.bind_eq_some_iff.mp e
      obtain ⟨a, vs, rfl, h1, h2⟩ := lstOf_ok rh r e1
      have ev := boolsOf_ok h2 e2
      subst ev
      exact ⟨a, bs, rfl, .of h1, Post.done z (Ext.refl _ _) rh rfl⟩
    · exact z.elim
  · exact z.elim
theorem sn_any : SndL K (rAny K) fAny := fun {W s as h H p v Q} rh rp z => by
  unfold fAny at z
  split at z
  · obtain ⟨v, rfl, r⟩ := reps1 rp
    split at z
    · rename_i bs e
      obtain ⟨xs, e1, e2⟩ := Option.bind_eq_some_iff.mp e
      obtain ⟨a, vs, rfl, h1, h2⟩ := lstOf_ok rh r e1
      have ev := boolsOf_ok h2 e2
      subst ev
      exact ⟨a, bs, rfl, .of h1, Post.done z (Ext.refl _ _) rh rfl⟩
    · exact z.elim
  · exact z.elim
def intsOf : List P → Option (List Int)
  | [] => some []
  | .int b :: r => (intsOf r).map (b :: ·)
  | _ :: _ => none
theorem intsOf_ok {as : List Addr} {H : Hp} : ∀ {xs : List P} {vs : List V} {bs : List Int}, Reps K as H xs vs → intsOf xs = some bs → vs = bs.map V.int
  | [], _, _, r, e => by
    cases e
    exact reps_inv0 r
  | .int b :: xs, _, _, r, e => by
    obtain ⟨v, vr, rfl, h1, h2⟩ := reps_inv r
    unfold intsOf at e
    obtain ⟨bs, e1, e2⟩ := Option.map_eq_some_iff.mp e
    subst e2
    cases h1
    rw [intsOf_ok h2 e1]
    rfl
  | .non :: _, _, _, _, e => by cases e
  | .bl _ :: _, _, _, _, e => by cases e
  | .str _ :: _, _, _, _, e => by cases e
  | .tup _ :: _, _, _, _, e => by cases e
  | .lst _ :: _, _, _, _, e => by cases e
  | .obj _ :: _, _, _, _, e => by cases e
  | .cls _ :: _, _, _, _, e => by cases e
  | .scr _ :: _, _, _, _, e => by cases e
def fSum : FL := fun xs h => match xs with
  | [p] => (match (lstOf h p).bind intsOf with
    | some bs => .ok (.int bs.sum) h
    | none => .bad)
  | _ => .bad
theorem sn_sum : SndL K (rSum K) fSum := fun {W s as h H p v Q} rh rp z => by
  unfold fSum at z
  split at z
  · obtain ⟨v, rfl, r⟩ := reps1 rp
    split at z
    · rename_i bs e
      obtain ⟨xs, e1, e2⟩ := Option.bind_eq_some_iff.mp e
      obtain ⟨a, vs, rfl, h1, h2⟩ := lstOf_ok rh r e1
      have ev := intsOf_ok h2 e2
      subst ev
      exact ⟨a, bs, rfl, .of h1, Post.done z (Ext.refl _ _) rh rfl⟩
    · exact z.elim
  · exact z.elim
def fInt : FL := fun xs h => match xs with
  | [.int i] => .ok (.int i) h
  | [.bl k] => .ok (.int (if k then 1 else 0)) h
  | [.str a] => (match PySem.intText? a with
    | some n => if a.length ≤ 640 then .ok (.int n) h else .bad
    | none => .bad)
  | _ => .bad
def rIntA : List V → Hp → VK → Prop := fun xs H Q => ((∃ i, xs = [.int i] ∧ Q (.int i) H) ∨ ∃ k, xs = [.bl k] ∧ Q (.int (if k then 1 else 0)) H) ∨ (∃ a n, xs = [.str a] ∧ PySem.intText? a = some n ∧ a.length ≤ 640 ∧ Q (.int n) H)
theorem cr_int : CallR X (.type "int") rIntA := call_int1.or call_int_str
theorem sn_intc : SndL K rIntA fInt := fun {W s as h H p v Q} rh rp z => by
  unfold fInt at z
  split at z
  · obtain ⟨v, rfl, r⟩ := reps1 rp
    cases r
    exact .inl (.inl ⟨_, rfl, Post.done z (Ext.refl _ _) rh rfl⟩)
  · obtain ⟨v, rfl, r⟩ := reps1 rp
    cases r
    exact .inl (.inr ⟨_, rfl, Post.done z (Ext.refl _ _) rh rfl⟩)
  · obtain ⟨v, rfl, r⟩ := reps1 rp
    cases r
    split at z
    · rename_i n e
      split at z
      · rename_i l
        exact .inr ⟨_, n, rfl, e, l, Post.done z (Ext.refl _ _) rh rfl⟩
      · exact z.elim
    · exact z.elim
  · exact z.elim
def fStr : FL := fun xs h => match xs with
  | [.int i] => if i.natAbs.log2 < 1920 then .ok (.str (toString i)) h else .bad
  | [.str a] => .ok (.str a) h
  | _ => .bad
def rStrA : List V → Hp → VK → Prop := fun xs H Q => (∃ i : Int, xs = [.int i] ∧ i.natAbs.log2 < 1920 ∧ Q (.str (toString i)) H) ∨ (∃ a, xs = [.str a] ∧ Q (.str a) H)
theorem cr_str : CallR X (.type "str") rStrA := call_str_int.or SkE.call_str_str
theorem sn_str : SndL K rStrA fStr := fun {W s as h H p v Q} rh rp z => by
  unfold fStr at z
  split at z
  · obtain ⟨v, rfl, r⟩ := reps1 rp
    cases r
    split at z
    · rename_i l
      exact .inl ⟨_, rfl, l, Post.done z (Ext.refl _ _) rh rfl⟩
    · exact z.elim
  · obtain ⟨v, rfl, r⟩ := reps1 rp
    cases r
    exact .inr ⟨_, rfl, Post.done z (Ext.refl _ _) rh rfl⟩
  · exact z.elim
def keyP : Key → P
  | .inl i => .int i
  | .inr x => .str x
theorem keys_rep {as : List Addr} {H : Hp} : ∀ {kvs : List (Key × P)} {ws : List (Key × V)}, RepK K as H kvs ws → Reps K as H (kvs.map fun kv => keyP kv.1) (ws.map fun kv => kV kv.1)
  | [], ws, h => by
    have z : ws = [] := by
      have := h.len
      cases ws with
      | nil => rfl
      | cons _ _ => simp at this
    subst z
    exact reps_nil
  | kv :: kvs, ws, h => by
    obtain ⟨v, r, rfl, e1, e2⟩ := repK_cons h
    refine reps_cons ?_ (keys_rep e2)
    obtain ⟨k, p⟩ := kv
    cases k with
    | inl i => show Rep K as H (.int i) (.int i); unfold Rep; rfl
    | inr x => show Rep K as H (.str x) (.str x); unfold Rep; rfl
def fList (b : Bool) : FL := fun xs h => match xs with
  | [p] => (match seqOf h p with
    | some xs => mkL b xs h
    | none => (match dctOf h p with
      | some kvs => mkL b (kvs.map fun kv => keyP kv.1) h
      | none => .bad))
  | _ => .bad
def rListA (K : PySem.W.Frag) : List V → Hp → VK → Prop := fun xs H Q => (∃ p ys, xs = [.ref p] ∧ (SqL K H p ys ∨ SqT K H p ys) ∧ ∀ l, H l = none → Q (.ref l) (upd H l (.lst ys))) ∨ rListD xs H Q
theorem cr_list (hc : X.calm = true) : CallR X (.type "list") (rListA X.K) := call_list_of.or (call_list_dK hc)
theorem sn_list {b : Bool} : SndL K (rListA K) (fList b) := fun {W s as h H p v Q} rh rp z => by
  unfold fList at z
  split at z
  · obtain ⟨v, rfl, r⟩ := reps1 rp
    split at z
    · rename_i xs e
      obtain ⟨a, vs, rfl, h1, h2⟩ := seqOf_ok rh r e
      exact .inl ⟨a, vs, rfl, h1, fun l e => post_mk rh h2 z l e⟩
    · split at z
      · rename_i kvs e
        obtain ⟨a, ws, rfl, h1, h2⟩ := dctOf_ok rh r e
        exact .inr ⟨a, ws, rfl, h1, fun l e => post_mk rh (keys_rep h2) z l e⟩
      · exact z.elim
  · exact z.elim
end
end AM

/-! AM11: tuple(..), isinstance, methods of lists and texts, dicts beside {}. -/
namespace AM
open PySem PySem.Spec PyProof.Rows L2
noncomputable section
variable {X : Cx} {W : WX} {K : PySem.W.Frag}

/-! ### tuple(d), d a dict: its keys -/
section
variable {prog : Program} {w : World} {A : Around} {E : Value → Shared → Prop} {s : Shared} {r d : Addr} {T : String} {n : Nat} {Pq : Nat → Value → Prop} {OK : Heap → Prop}
theorem code_tuple_src {Q1 : Value → Shared → Prop} (S : PySem.W.KdlSrc prog w T r d n Pq OK) (hh : A.handled = none) (hok : OK s.heap) (hn : n ≤ sizeLine) (hT : s.TypeIs (.ref r) T) (ne : T ≠ "tuple")
    (h : ∀ (h' : Heap) (tk : Nat) (acc : Array Value), (∀ b o, s.heap.get? b = some o → h'.get? b = some o) → ItemsOf Pq acc n →
      Q1 (.ref h'.objs.size) { s with heap := h'.push { cls := .type "tuple", data := .seq acc }, toks := tk }) :
    codeAny (model prog w) A (.call (.builtin "tuple.__new__") ⟨[.type "tuple", .ref r], []⟩) (wants Q1 E) s := by
  have hh2 : A.in1.handled = none := hh
  have hsub := sub_tuple_self
  have hinit := init_tuple_lookup
  have hmh := madeHere_tuple
  refine codeAny_of_tree ?_
  show wpAny _ A.in1 (do checkBuiltinCall "tuple.__new__" ⟨[.type "tuple", .ref r], []⟩; again (.builtin "tuple.__new__" ⟨[.type "tuple", .ref r], []⟩)) _ _ s
  refine wpAny_bind (wpAny_of_eq (F.newCall_tuple_1 _) (wpAny_pure ⟨plainId_quiet F.plain_tuple_new _, codeAny_builtin F.entry_tuple_new ?_⟩))
  rw [Around.under_plainId F.plain_tuple_new _]
  have hne : (Value.type T == Value.type "tuple") = false := by
    rw [beq_eq_false_iff_ne]
    intro z
    exact ne (Value.type.inj z)
  wp_walk using wpAny_typeOf hT, PySem.W.kdu_collect (A := A.in1) S hh2 hok hn
  intro h' tk acc hk hacc
  show wpAny _ _ (Builtin.Tuple.tupleExact acc.toList.toArray >>= fun v => ret v) _ _ _
  have ea : acc.toList.toArray = acc := by simp
  unfold Builtin.Tuple.tupleExact
  refine wpAny_bind (wpAny_newObj_type ?_ (by show acc.toList.toArray.size ≤ sizeLine; rw [ea, hacc.1]; exact hn))
  refine wpAny_pure ?_
  rw [ea]
  exact h h' tk acc hk hacc
end

/-- how a new tuple stands: as a tuple, or with its very object -/
def hoT (b : Bool) (o : Obj) (ys : List V) : HO := if b = true then .frz o (.tup ys) else .tup ys
/-- an object that is a plain tuple -/
def PlainT (o : Obj) : Prop := o.cls = .type "tuple" ∧ o.dict = none
theorem hoT_ok {prog : Program} {w : World} {H : Hp} {h : Heap} {b : Bool} {ys : List V} {its : List Value} {o : Obj} (hz : ys.length ≤ sizeLine) (r : Vals ys its) (e : o = { cls := .type "tuple", data := .seq its.toArray }) {a : Addr} (g : h.get? a = some o) : ObjOk prog w H h a (hoT b o ys) := by
  have z : ObjOk prog w H h a (.tup ys) := ⟨hz, its, r, o, g, by rw [e], 0, by rw [e]⟩
  cases b with
  | true => exact ⟨g, z⟩
  | false => exact z
def rTupD (b : Bool) : List V → Hp → VK → Prop := fun xs H Q => ∃ a ws, xs = [V.ref a] ∧ H a = some (.dK ws) ∧ ∀ p o, H p = none → PlainT o → Q (.ref p) (upd H p (hoT b o (ws.map fun kv => kV kv.1)))
theorem call_tupD {b : Bool} (hc : X.calm = true) : CallR X (.type "tuple") (rTupD b) := by
  intro pins s σ H xs us Q I r h
  obtain ⟨p, kvs, e, hk, q⟩ := h
  subst e
  obtain ⟨u, eu, rx⟩ := vals1 r
  subst eu
  obtain rfl : u = Value.ref p := rx
  obtain ⟨z, lo, vs, rk, hd⟩ := (show ObjOk X.prog X.w H s.heap p (.dK kvs) from I.hok p _ hk)
  obtain ⟨ep, hat⟩ := hd.dictAt
  have hl : kvs.length = vs.length := Paired.length rk
  refine callType_codes (Q₁ := fun obj s₁ => s₁.TypeIs obj "tuple" ∧ EP X pins σ Q obj s₁) F.called_tuple (F.typeCall_tuple_1 _) F.entry_object_init
    (code_tuple_src (A := X.A.in1) (PySem.W.kdl_dict (knd := mixKind X.prog X.w) (kvs := vs) (ep := ep) lo) (I.ok.hd hc) hat (by rw [← hl]; exact z) hat.dictOf.typeIs (by decide) fun h' tk acc hk hacc => ⟨⟨_, Heap.get?_push_size _ rfl, rfl⟩, ?_⟩) fun obj s₁ h₁ => ?_
  · have I1 : Inv X pins σ H { s with heap := h', toks := tk } := I.kept hk
    have el : acc.toList.length = acc.size := by simp
    have rv : Vals (kvs.map fun kv => kV kv.1) acc.toList := by
      refine vals_of_at (by rw [List.length_map, el, hacc.1, hl]) fun j x w h1 h2 => ?_
      obtain ⟨k, y, hky, hi⟩ := hacc.2 j w (by rw [← Array.getElem?_toList]; exact h2)
      have e1 : (kvs.map (·.1))[j]? = some k := by
        rw [KV.keys rk, List.getElem?_map, hky] <;> rfl
      have e2 : (kvs.map fun kv => kV kv.1) = (kvs.map (·.1)).map kV := by rw [List.map_map] <;> rfl
      rw [e2, List.getElem?_map, e1] at h1
      cases h1
      exact keyIs_rel hi
    have ez : (kvs.map fun kv => kV kv.1).length ≤ sizeLine := by rw [List.length_map]; exact z
    refine ⟨.ref h'.objs.size, upd H h'.objs.size (hoT b { cls := .type "tuple", data := .seq acc } (kvs.map fun kv => kV kv.1)), I1.laid (t' := tk) (fun c o e => Heap.get?_push_of_some _ e) (Nat.le_refl _)
      (hoT_ok ez rv (by simp) (Heap.get?_push_size _ rfl)), rfl, q _ _ (I1.hok.fresh (Nat.le_refl _)) ⟨rfl, rfl⟩⟩
  · exact ⟨h₁.1, F.args_object_init_2 obj _, object_init_meets F.called_tuple.init.lookup F.called_tuple.made (by decide) X.prog X.w X.A.in1 _ s₁ ⟨h₁.1, rfl, h₁.2⟩⟩
/-- tuple(x) of a list: a new one -/
def rTupL (K : PySem.W.Frag) (b : Bool) : List V → Hp → VK → Prop := fun xs H Q => ∃ a ys, xs = [V.ref a] ∧ SqL K H a ys ∧ ∀ p o, H p = none → PlainT o → Q (.ref p) (upd H p (hoT b o ys))
theorem call_tupL {b : Bool} : CallR X (.type "tuple") (rTupL X.K b) := by
  intro pins s σ H xs us Q I r h
  obtain ⟨p, ys, rfl, hq, q⟩ := h
  obtain ⟨u, rfl, rx⟩ := vals1 r
  cases rx
  obtain ⟨its, r', pl, hz⟩ := I.list hq
  have hlen := r'.length
  refine call_tuple_list pl.isList (fun h' kp => ?_) (by simp only [List.size_toArray] <;> omega)
  have I1 : Inv X pins σ H { s with heap := h' } := I.kept (t' := s.toks) kp
  exact ⟨.ref h'.objs.size, _, I1.laid (t' := s.toks) (fun b o e => Heap.get?_push_of_some _ e) (Nat.le_refl _) (hoT_ok (b := b) hz r' rfl (Heap.get?_push_size _ rfl)), rfl, q _ _ (I1.hok.fresh (Nat.le_refl _)) ⟨rfl, rfl⟩⟩
def rTupA (K : PySem.W.Frag) : List V → Hp → VK → Prop := fun xs H Q => ((∃ a ys, xs = [V.ref a] ∧ SqT K H a ys ∧ Q (.ref a) H) ∨ rTupL K false xs H Q) ∨ rTupD false xs H Q
theorem cr_tup (hc : X.calm = true) : CallR X (.type "tuple") (rTupA X.K) := (call_tupleT.or call_tupL).or (call_tupD hc)
def fTup : FL := fun xs h => match xs with
  | [.tup xs] => .ok (.tup xs) h
  | [p] => (match seqOf h p with
    | some xs => .ok (.tup xs) h
    | none => (match dctOf h p with
      | some kvs => .ok (.tup (kvs.map fun kv => keyP kv.1)) h
      | none => .bad))
  | _ => .bad
theorem seqOf_lst {as : List Addr} {h : AH} {H : Hp} {p : P} {v : V} {xs : List P} (rh : RelH K as h H) (r : Rep K as H p v) (e : seqOf h p = some xs) (n : ∀ ys, p ≠ .tup ys) : ∃ a vs, v = .ref a ∧ SqL K H a vs ∧ Reps K as H xs vs := by
  cases p with
  | tup ys => exact absurd rfl (n ys)
  | scr ys =>
    cases e
    unfold Rep at r
    obtain ⟨a, vs, o, rfl, _, h1, h2⟩ := r
    exact ⟨a, vs, rfl, .inl (.inr ⟨o, h1⟩), h2⟩
  | lst ys => obtain ⟨a, vs, h0, h1, h2⟩ := lstOf_ok rh r e; exact ⟨a, vs, h0, .of h1, h2⟩
  | obj n => obtain ⟨a, vs, h0, h1, h2⟩ := lstOf_ok rh r e; exact ⟨a, vs, h0, .of h1, h2⟩
  | non => cases e
  | bl _ => cases e
  | int _ => cases e
  | str _ => cases e
  | cls _ => cases e
theorem sn_tup : SndL K (rTupA K) fTup := fun {W s as h H p v Q} rh rp z => by
  unfold fTup at z
  split at z
  · obtain ⟨v, rfl, r⟩ := reps1 rp
    have r0 := r
    unfold Rep at r
    obtain ⟨a, vs, rfl, h1, h2⟩ := r
    exact .inl (.inl ⟨a, vs, rfl, h1.sq, Post.done z (Ext.refl _ _) rh r0⟩)
  · rename_i p nt
    obtain ⟨v, rfl, r⟩ := reps1 rp
    split at z
    · rename_i xs e
      obtain ⟨a, vs, rfl, h1, h2⟩ := seqOf_lst rh r e (fun ys e => nt ys (by rw [e]))
      exact .inl (.inr ⟨a, vs, rfl, h1, fun l o e _ => post_tup rh h2 z l e⟩)
    · split at z
      · rename_i kvs e
        obtain ⟨a, ws, rfl, h1, h2⟩ := dctOf_ok rh r e
        exact .inr ⟨a, ws, rfl, h1, fun l o e _ => post_tup rh (keys_rep h2) z l e⟩
      · exact z.elim
  · exact z.elim

/-! ### d == {} -/
def rEqD0 (neg : Bool) : R2 := fun x y H Q => ∃ a b ks, x = V.ref a ∧ y = V.ref b ∧ H a = some (.dK ks) ∧ H b = some (.dK []) ∧ Q (.bl (if neg = true then !ks.isEmpty else ks.isEmpty)) H
theorem len_beq0 {α β : Type} {xs : List α} {ys : List β} (h : xs.length = ys.length) : ((ys.length == 0) && true) = xs.isEmpty := by
  cases xs with
  | nil =>
    rw [← h]
    rfl
  | cons _ _ =>
    rw [← h]
    rfl
theorem op_eqD0 {k : Nat} (hk : Here X k) : OpR X (compareOp .Eq) (rEqD0 false) := by
  intro pins s σ H x y v u Q I rx ry h
  obtain ⟨a, b, ks, rfl, rfl, ea, eb, q⟩ := h
  obtain rfl : v = Value.ref a := rx
  obtain rfl : u = Value.ref b := ry
  obtain ⟨_, ya, va, ra, da⟩ := (show ObjOk X.prog X.w H s.heap a (.dK ks) from I.hok a _ ea)
  obtain ⟨_, yb, vb, rb, db⟩ := (show ObjOk X.prog X.w H s.heap b (.dK []) from I.hok b _ eb)
  cases rb
  have hu : X.A.units < cLine := by have := room64 hk; omega
  refine PySem.W.keq_eq (knd := mixKind X.prog X.w) (r := true) ya yb da db hu (fun e => ?_) (fin_bl I q ?_)
  · rw [List.eq_nil_of_length_eq_zero e]
    exact .nil
  · show ks.isEmpty = ((va.length == 0) && true)
    rw [len_beq0 (Paired.length ra)]
theorem op_neD0 {k : Nat} (hk : Here X k) : OpR X (compareOp .NotEq) (rEqD0 true) := by
  intro pins s σ H x y v u Q I rx ry h
  obtain ⟨a, b, ks, rfl, rfl, ea, eb, q⟩ := h
  obtain rfl : v = Value.ref a := rx
  obtain rfl : u = Value.ref b := ry
  obtain ⟨_, ya, va, ra, da⟩ := (show ObjOk X.prog X.w H s.heap a (.dK ks) from I.hok a _ ea)
  obtain ⟨_, yb, vb, rb, db⟩ := (show ObjOk X.prog X.w H s.heap b (.dK []) from I.hok b _ eb)
  cases rb
  have hu : X.A.units < cLine := by have := room64 hk; omega
  refine PySem.W.keq_ne (knd := mixKind X.prog X.w) (r := true) ya yb da db hu (fun e => ?_) (fin_bl I q ?_)
  · rw [List.eq_nil_of_length_eq_zero e]
    exact .nil
  · show (!ks.isEmpty) = !((va.length == 0) && true)
    rw [len_beq0 (Paired.length ra)]
def eqD0 (neg : Bool) : CmpF := fun p q h => match dctOf h p, dctOf h q with
  | some kvs, some [] => some (if neg = true then !kvs.isEmpty else kvs.isEmpty)
  | _, _ => none
theorem cs_eqD0 {neg : Bool} : CmpS K (rEqD0 neg) (eqD0 neg) := fun {as h H p q v w Q k} rh rp rq e z => by
  unfold eqD0 at e
  split at e
  · rename_i kvs z1 z2
    cases e
    obtain ⟨a, ws, rfl, h1, h2⟩ := dctOf_ok rh rp z1
    obtain ⟨b, ws', rfl, h3, h4⟩ := dctOf_ok rh rq z2
    have e0 : ws' = [] := by
      have := h4.len
      cases ws' with
      | nil => rfl
      | cons _ _ => simp at this
    subst e0
    refine ⟨a, b, ws, rfl, rfl, h1, h3, ?_⟩
    rw [← isEmpty_len h2.len]
    exact z
  · cases e

/-! ### isinstance -/
/-- the name of a value's built-in type -/
def tyP (h : AH) : P → Option String
  | .non => some "NoneType"
  | .bl _ => some "bool"
  | .int _ => some "int"
  | .str _ => some "str"
  | .tup _ => some "tuple"
  | .lst _ => some "list"
  | .scr _ => some "list"
  | .obj n => match h[n]? with
    | some (.lst _) => some "list"
    | some (.dct _) => some "dict"
    | _ => none
  | .cls _ => none
theorem tyP_ok {as : List Addr} {h : AH} {H : Hp} {p : P} {v : V} {T : String} (rh : RelH K as h H) (r : Rep K as H p v) (e : tyP h p = some T) : TyX K H v (.type T) := by
  cases p with
  | non => cases e; cases r; exact .base .non
  | bl b => cases e; cases r; exact .base (.bl b)
  | int b => cases e; cases r; exact .base (.int b)
  | str b => cases e; cases r; exact .base (.str b)
  | tup xs =>
    cases e
    unfold Rep at r
    obtain ⟨a, vs, rfl, h1, h2⟩ := r
    rcases h1 with ⟨_, h1 | ⟨o, h1⟩⟩ | ⟨o, its, n, h1, h3, _⟩
    · exact .base (.tup h1)
    · exact .fTuple h1
    · exact .kTuple h1 h3
  | lst xs =>
    cases e
    unfold Rep at r
    obtain ⟨a, vs, rfl, _, h1, h2⟩ := r
    exact .base (.lst h1)
  | scr xs =>
    cases e
    unfold Rep at r
    obtain ⟨a, vs, o, rfl, _, h1, h2⟩ := r
    exact .base (.frz h1)
  | obj n =>
    have e : (match h[n]? with
      | some (.lst _) => some "list"
      | some (.dct _) => some "dict"
      | _ => none) = some T := e
    unfold Rep at r
    obtain ⟨a, rfl, ea⟩ := r
    split at e
    · rename_i xs z
      cases e
      obtain ⟨vs, h1, _⟩ := rh.obj z ea
      exact .base (.lst h1)
    · rename_i xs z
      cases e
      obtain ⟨vs, h1, _⟩ := rh.obj z ea
      exact .base (.dK h1)
    · cases e
  | cls _ => cases e
/-- is a value of type T one of U? -/
def tyB (T U : String) : Bool := T == U || (T == "bool" && U == "int")
theorem kit_tab : ∀ T ∈ ["NoneType", "bool", "int", "str", "tuple", "list", "dict"], ∀ U ∈ ["bool", "int", "str", "tuple", "list", "dict"], kitB T U = some (tyB T U) := by decide +kernel
theorem tyP_in {h : AH} {p : P} {T : String} (e : tyP h p = some T) : T ∈ ["NoneType", "bool", "int", "str", "tuple", "list", "dict"] := by
  cases p with
  | obj n =>
    have e : (match h[n]? with
      | some (.lst _) => some "list"
      | some (.dct _) => some "dict"
      | _ => none) = some T := e
    split at e <;> cases e <;> decide
  | cls _ => cases e
  | non => cases e; decide
  | bl _ => cases e; decide
  | int _ => cases e; decide
  | str _ => cases e; decide
  | tup _ => cases e; decide
  | lst _ => cases e; decide
  | scr _ => cases e; decide
def eIsi (U : String) (m : EM) : EM := fun t h => (m t h).bind fun p h1 => match tyP h1 p with
  | some T => .ok (.bl (tyB T U)) h1
  | none => .bad
theorem w_isi {U : String} {x : Str} {e : Expr} {m : EM} {p1 p2 pos : Pos} (he : PEm X W e m) (hU : U ∈ ["bool", "int", "str", "tuple", "list", "dict"] := by decide) (hm : X.mg "isinstance" = none) (hm2 : X.mg x = none) (hv : bootBuiltins x = some (.type U) := by rfl)
    (hg : Gl X "isinstance" := by rfl) (hg2 : Gl X x := by rfl) (hn : x ≠ "__name__" := by decide) (hd : (x == ("__debug__" : Str)) = false := by decide)
    (hv1 : bootBuiltins "isinstance" = some (.builtin "isinstance") := by rfl)
    (h1 : starEach [e, .Name x p2] X.env = (false, eval e X.env) :: starEach [.Name x p2] X.env := by rfl) (h2 : starEach [.Name x p2] X.env = (false, eval (.Name x p2) X.env) :: starEach [] X.env := by rfl)
    (hpl : (backTo pos (starEach [.Name x p2] X.env)).any (·.1) = false := by rfl) :
    PEm X W (.Call (.Name "isinstance" p1) [e, .Name x p2] [] pos) (eIsi U m) := by
  refine PE_imp (pe_callB call_isi hg hm hv1 (pa_cons he (pa_cons (pe_bltn hg2 hm2 hv (show RelV (.ty U) (.type U) from rfl) hn hd) pa_nil h2) h1) (by decide) (by decide) h1 hpl) fun s H Q q => ?_
  obtain ⟨as, h, t, rh, rs, q⟩ := q
  refine ⟨as, h, t, rh, rs, (Post.bind (R := Rep X.K) q).mono fun v H1 z => ?_⟩
  obtain ⟨as1, h1, p, x1, r1, e1, q1⟩ := z
  split at q1
  · rename_i T z
    exact ⟨v, .ty U, .type T, .type U, tyB T U, rfl, .ty U, tyP_ok r1 e1 z, kit_ty (kit_tab T (tyP_in z) U hU), Post.done q1 (Ext.refl _ _) r1 rfl⟩
  · exact q1.elim

/-! ### methods of built-in types -/
abbrev MF := P → List P → AH → Out P
def SndM (K : PySem.W.Frag) (r : V → List V → Hp → VK → Prop) (f : MF) : Prop := ∀ {W : WX} {s : L2.St} {as : List Addr} {h : AH} {H : Hp} {p : P} {ps : List P} {v : V} {vs : List V} {Q : VK}, RelH K as h H → Rep K as H p v → Reps K as H ps vs → Post (Rep K) K W s as H (f p ps h) Q → r v vs H Q
def isTy (h : AH) (T : String) (p : P) : Bool := match p with
  | .str _ => T == "str"
  | .lst _ => T == "list"
  | .obj n => match h[n]? with
    | some (.lst _) => T == "list"
    | some (.dct _) => T == "dict"
    | _ => false
  | _ => false
theorem isTy_ok {as : List Addr} {h : AH} {H : Hp} {p : P} {v : V} {T : String} (rh : RelH K as h H) (r : Rep K as H p v) (e : isTy h T p = true) : tyV K T v H := by
  cases p with
  | str b => cases r; exact eq_of_beq e
  | lst xs =>
    unfold Rep at r
    obtain ⟨a, vs, rfl, _, h1, h2⟩ := r
    exact .inl ⟨eq_of_beq e, vs, .of h1⟩
  | obj n =>
    have e : (match h[n]? with
      | some (.lst _) => T == "list"
      | some (.dct _) => T == "dict"
      | _ => false) = true := e
    unfold Rep at r
    obtain ⟨a, rfl, ea⟩ := r
    split at e
    · rename_i xs z
      obtain ⟨vs, h1, _⟩ := rh.obj z ea
      exact .inl ⟨eq_of_beq e, vs, .of h1⟩
    · rename_i xs z
      obtain ⟨vs, h1, _⟩ := rh.obj z ea
      exact .inr (.inr (.inl ⟨eq_of_beq e, .inl ⟨vs, h1⟩⟩))
    · cases e
  | cls _ => cases e
  | non => cases e
  | bl _ => cases e
  | int _ => cases e
  | tup _ => cases e
  | scr _ => cases e
def eBM (T : String) (f : MF) (mo : EM) (a : LM) : EM := fun t h => (mo t h).bind fun x h1 => if isTy h1 T x = true then (a t h1).bind fun xs h2 => f x xs h2 else .bad
theorem w_bm {T id : String} {name : Str} {r : V → List V → Hp → VK → Prop} {f : MF} {o e : Expr} {es : List Expr} {mo : EM} {a : LM} {apos cpos : Pos} (pa : PlainAttrs T) (slot : Slot T name id) (hty : typeOf (.builtin id) = pure (.type "method_descriptor")) (hm : MtR X id r) (hs : SndM X.K r f)
    (ho : PEm X W o mo) (ha : PAm X W (e :: es) a) (hbase : attributeBase o name X.env (eval o X.env) = eval o X.env := by rfl)
    (hfew : ((backTo cpos (starEach (e :: es) X.env)).all (fun x => !x.1) && (backToKw cpos (keywordEach [] X.env)).all (fun x => x.1.isSome)
      && decide ((e :: es).length + ([] : List Keyword).length + (if ([] : List Keyword).isEmpty then 0 else 1) < 30)) = true := by rfl)
    (hline : (apos.endLine == cpos.line) = true := by rfl) (hst : starEach (e :: es) X.env = (false, eval e X.env) :: starEach es X.env := by rfl) (hplain : (backTo cpos (starEach es X.env)).any (·.1) = false := by rfl) :
    PEm X W (.Call (.Attribute o name apos) (e :: es) [] cpos) (eBM T f mo a) := by
  refine PE_imp (pe_bm pa slot hty hm ho ha hbase hfew hline hst hplain) fun s H Q q => ?_
  obtain ⟨as, h, t, rh, rs, q⟩ := q
  refine ⟨as, h, t, rh, rs, (Post.bind (R := Rep X.K) q).mono fun v H1 z => ?_⟩
  obtain ⟨as1, h1, p, x1, r1, e1, q1⟩ := z
  split at q1
  · rename_i z
    refine ⟨isTy_ok r1 e1 z, as1, h1, t, r1, rs.mono x1, (Post.bind (R := Reps X.K) q1).mono fun vs H2 z => ?_⟩
    obtain ⟨as2, h2, ps, x2, r2, e2, q2⟩ := z
    exact hs r2 (e1.mono x2) e2 q2
  · exact q1.elim
theorem w_bm0 {T id : String} {name : Str} {r : V → List V → Hp → VK → Prop} {f : MF} {o : Expr} {mo : EM} {apos cpos : Pos} (pa : PlainAttrs T) (slot : Slot T name id) (hty : typeOf (.builtin id) = pure (.type "method_descriptor")) (hm : MtR X id r) (hs : SndM X.K r f)
    (ho : PEm X W o mo) (hbase : attributeBase o name X.env (eval o X.env) = eval o X.env := by rfl) (hline : (apos.endLine == cpos.line) = true := by rfl) :
    PEm X W (.Call (.Attribute o name apos) [] [] cpos) (eBM T f mo lN) := by
  refine PE_imp (pe_bm0 pa slot hty hm ho hbase hline) fun s H Q q => ?_
  obtain ⟨as, h, t, rh, rs, q⟩ := q
  refine ⟨as, h, t, rh, rs, (Post.bind (R := Rep X.K) q).mono fun v H1 z => ?_⟩
  obtain ⟨as1, h1, p, x1, r1, e1, q1⟩ := z
  split at q1
  · rename_i z
    exact ⟨isTy_ok r1 e1 z, hs r1 e1 reps_nil q1⟩
  · exact q1.elim
/-- a tracked list, to be changed -/
theorem list_obj {as : List Addr} {h : AH} {H : Hp} {p : P} {v : V} {n : Nat} {xs : List P} (rh : RelH K as h H) (rp : Rep K as H p v) (e : p = .obj n) (z : h[n]? = some (.lst xs)) : ∃ a vs, v = .ref a ∧ as[n]? = some a ∧ H a = some (.lst vs) ∧ Reps K as H xs vs := by
  subst e
  unfold Rep at rp
  obtain ⟨a, rfl, ea⟩ := rp
  obtain ⟨vs, h1, h2⟩ := rh.obj z ea
  exact ⟨a, vs, rfl, ea, h1, h2⟩
theorem put_list {as : List Addr} {h : AH} {H : Hp} {n : Nat} {a : Addr} {xs : List P} {vs : List V} (rh : RelH K as h H) (ea : as[n]? = some a) (r : Reps K as H xs vs) : Ext as H as (upd H a (.lst vs)) ∧ RelH K as (h.set n (.lst xs)) (upd H a (.lst vs)) := by
  have x := Ext.put (o := .lst vs) rh ea
  exact ⟨x, rh.put ea ⟨vs, upd_same, r.mono x⟩⟩
def objL (h : AH) (p : P) : Option (Nat × List P) := match p with
  | .obj n => match h[n]? with
    | some (.lst xs) => some (n, xs)
    | _ => none
  | _ => none
theorem objL_ok {h : AH} {p : P} {n : Nat} {xs : List P} (e : objL h p = some (n, xs)) : p = .obj n ∧ h[n]? = some (.lst xs) := by
  unfold objL at e
  split at e
  · split at e
    · rename_i z
      cases e
      exact ⟨rfl, z⟩
    · cases e
  · cases e
def mAppend : MF := fun p ps h => match objL h p, ps with
  | some (n, xs), [y] => if xs.length < 16777216 then .ok .non (h.set n (.lst (xs ++ [y]))) else .bad
  | _, _ => .bad
theorem sn_append : SndM K rAppend mAppend := fun {W s as h H p ps v vs Q} rh rp rq z => by
  unfold mAppend at z
  split at z
  · rename_i n xs y e
    split at z
    · rename_i l
      obtain ⟨e1, e2⟩ := objL_ok e
      obtain ⟨a, ws, rfl, ea, h1, h2⟩ := list_obj rh rp e1 e2
      obtain ⟨u, rfl, ru⟩ := reps1 rq
      obtain ⟨x, r'⟩ := put_list rh ea (h2.app (reps_cons ru reps_nil))
      exact ⟨a, ws, u, rfl, rfl, h1, by rw [sizeLine_eq, ← h2.len]; exact l, Post.done z x r' rfl⟩
    · exact z.elim
  · exact z.elim
def mExtend : MF := fun p ps h => match objL h p, ps with
  | some (n, xs), [q] => (match lstOf h q with
    | some ys => if small (xs.length + ys.length) = true then .ok .non (h.set n (.lst (xs ++ ys))) else .bad
    | none => .bad)
  | _, _ => .bad
theorem sn_extend : SndM K rExtend mExtend := fun {W s as h H p ps v vs Q} rh rp rq z => by
  unfold mExtend at z
  split at z
  · rename_i n xs y e
    split at z
    · rename_i ys ey
      split at z
      · rename_i l
        obtain ⟨e1, e2⟩ := objL_ok e
        obtain ⟨a, ws, rfl, ea, h1, h2⟩ := list_obj rh rp e1 e2
        obtain ⟨u, rfl, ru⟩ := reps1 rq
        obtain ⟨b, zs, rfl, h3, h4⟩ := lstOf_ok rh ru ey
        obtain ⟨x, r'⟩ := put_list rh ea (h2.app h4)
        exact ⟨a, b, ws, zs, rfl, rfl, h1, h3, by rw [← h2.len, ← h4.len]; exact small_ok l, Post.done z x r' rfl⟩
      · exact z.elim
    · exact z.elim
  · exact z.elim
def mPop : MF := fun p ps h => match objL h p, ps with
  | some (n, xs), [] => (match xs[xs.length - 1]? with
    | some y => .ok y (h.set n (.lst xs.dropLast))
    | none => .bad)
  | some (n, xs), [.int i] => if -1000000 ≤ i ∧ i < 1000000 then (match seqIndex? i xs.length with
    | some k => (match xs[k]? with
      | some y => .ok y (h.set n (.lst (xs.eraseIdx k)))
      | none => .bad)
    | none => .bad) else .bad
  | _, _ => .bad
def rPopA : V → List V → Hp → VK → Prop := fun x vs H Q => rPop x vs H Q ∨ rPopAt x vs H Q
theorem mt_popA : MtR X "list.pop" rPopA := MtR.or mt_pop mt_popAt
theorem Reps.dropLast {as : List Addr} {H : Hp} {xs : List P} {vs : List V} (r : Reps K as H xs vs) : Reps K as H xs.dropLast vs.dropLast := by
  rw [List.dropLast_eq_take, List.dropLast_eq_take, r.len]
  exact r.take _
theorem sn_pop : SndM K rPopA mPop := fun {W s as h H p ps v vs Q} rh rp rq z => by
  unfold mPop at z
  split at z
  · rename_i n xs e
    split at z
    · rename_i y hy
      obtain ⟨e1, e2⟩ := objL_ok e
      obtain ⟨a, ws, rfl, ea, h1, h2⟩ := list_obj rh rp e1 e2
      obtain ⟨u, e3, ru⟩ := h2.get hy
      obtain ⟨x, r'⟩ := put_list rh ea h2.dropLast
      rw [reps_inv0 rq]
      exact .inl ⟨a, ws, u, rfl, rfl, h1, by rw [← h2.len]; exact e3, Post.done z x r' (ru.mono x)⟩
    · exact z.elim
  · rename_i n xs i e
    split at z
    · rename_i l
      split at z
      · rename_i k hk
        split at z
        · rename_i y hy
          obtain ⟨e1, e2⟩ := objL_ok e
          obtain ⟨a, ws, rfl, ea, h1, h2⟩ := list_obj rh rp e1 e2
          obtain ⟨u, e3, ru⟩ := h2.get hy
          obtain ⟨x, r'⟩ := put_list rh ea (h2.erase k)
          obtain ⟨u2, rfl, ru2⟩ := reps1 rq
          cases ru2
          exact .inr ⟨a, ws, i, k, u, rfl, rfl, h1, by omega, by omega, by rw [← h2.len]; exact hk, e3, Post.done z x r' (ru.mono x)⟩
        · exact z.elim
      · exact z.elim
    · exact z.elim
  · exact z.elim
/-- the texts of a list -/
def strsOf : List P → Option (List Str)
  | [] => some []
  | .str b :: r => (strsOf r).map (b :: ·)
  | _ :: _ => none
theorem strsOf_ok {as : List Addr} {H : Hp} : ∀ {xs : List P} {vs : List V} {bs : List Str}, Reps K as H xs vs → strsOf xs = some bs → vs = bs.map V.str
  | [], _, _, r, e => by
    cases e
    exact reps_inv0 r
  | .str b :: xs, _, _, r, e => by
    obtain ⟨v, vr, rfl, h1, h2⟩ := reps_inv r
    unfold strsOf at e
    obtain ⟨bs, e1, e2⟩ := Option.map_eq_some_iff.mp e
    subst e2
    cases h1
    rw [strsOf_ok h2 e1]
    rfl
  | .non :: _, _, _, _, e => by cases e
  | .bl _ :: _, _, _, _, e => by cases e
  | .int _ :: _, _, _, _, e => by cases e
  | .tup _ :: _, _, _, _, e => by cases e
  | .lst _ :: _, _, _, _, e => by cases e
  | .obj _ :: _, _, _, _, e => by cases e
  | .cls _ :: _, _, _, _, e => by cases e
  | .scr _ :: _, _, _, _, e => by cases e
theorem reps_strs {as : List Addr} {H : Hp} : ∀ (ys : List Str), Reps K as H (ys.map P.str) (ys.map V.str)
  | [] => reps_nil
  | y :: ys => reps_cons (show Rep K as H (.str y) (.str y) by unfold Rep; rfl) (reps_strs ys)
/-- index: of texts, numbers, flat things in a list -/
def mIndex : MF := fun p ps h => match ps with
  | [q] => (match dat h p, dat h q with
    | some (.list ds), some d => if SeqAt.shaped (.list ds) = true ∧ SeqAt.shaped d = true ∧ ds.findIdx (fun z => PyData.eqv z d) < ds.length then .ok (.int (ds.findIdx (fun z => PyData.eqv z d) : Nat)) h else .bad
    | _, _ => .bad)
  | _ => .bad
theorem sn_index : SndM K (rIndexD K) mIndex := fun {W s as h H p ps v vs Q} rh rp rq z => by
  unfold mIndex at z
  split at z
  · rename_i q
    split at z
    · rename_i ds d e1 e2
      split at z
      · rename_i l
        obtain ⟨u, rfl, ru⟩ := reps1 rq
        have d1 := dat_ok rh rp e1
        have hv : ∃ a, v = .ref a := by cases d1; exact ⟨_, rfl⟩
        obtain ⟨a, rfl⟩ := hv
        refine ⟨a, u, d, ds, _, ds[ds.findIdx (fun z => PyData.eqv z d)]'l.2.2, rfl, rfl, d1, dat_ok rh ru e2, l.1, l.2.1, List.getElem?_eq_getElem l.2.2, (by have y := List.findIdx_getElem (p := fun z => PyData.eqv z d) (xs := ds) (w := l.2.2); exact y), fun m z' hm hz => ?_, Post.done z (Ext.refl _ _) rh rfl⟩
        have := List.not_of_lt_findIdx hm
        have hl : m < ds.length := Nat.lt_trans hm l.2.2
        rw [List.getElem?_eq_getElem hl] at hz
        cases hz
        simpa using this
      · exact z.elim
    · exact z.elim
  · exact z.elim

/-! ### texts -/
def eM1 (f : F2) (a b : EM) : EM := fun t h => (a t h).bind fun x h1 => match x with
  | .str _ => (b t h1).bind fun y h2 => f x y h2
  | _ => .bad
def SndM1 (K : PySem.W.Frag) (r : V → List V → Hp → VK → Prop) (f : F2) : Prop := Snd2 K (fun x y H Q => r x [y] H Q) f
theorem m1_post {r : V → List V → Hp → VK → Prop} {f : F2} {ma mb : EM} {s : L2.St} {H : Hp} {Q : VK} (hs : SndM1 X.K r f) (q : TEm X.K W (eM1 f ma mb) s H Q) : tM1 r (TEm X.K W ma) (TEm X.K W mb) s H Q := by
  obtain ⟨as, h, t, rh, rs, q⟩ := q
  refine ⟨as, h, t, rh, rs, (Post.bind (R := Rep X.K) q).mono fun v H1 z => ?_⟩
  obtain ⟨as1, h1, p, x1, r1, e1, q1⟩ := z
  split at q1
  · rename_i y
    have ev : v = .str y := e1
    refine ⟨⟨y, ev⟩, as1, h1, t, r1, rs.mono x1, (Post.bind (R := Rep X.K) q1).mono fun v2 H2 z => ?_⟩
    obtain ⟨as2, h2, p2, x2, r2, e2, q2⟩ := z
    exact hs r2 (e1.mono x2) e2 q2
  · exact q1.elim
def fJoin : F2 := fun p q h => match p with
  | .str a => (match (seqOf h q).bind strsOf with
    | some ys => if (ys.map (·.length)).sum + ys.length * a.length ≤ 16777216 then .ok (.str (Txt.join a ys)) h else .bad
    | none => .bad)
  | _ => .bad
theorem sn_join : SndM1 K (fun x xs H Q => ∃ a p, ∃ ys : List Str, x = .str a ∧ xs = [.ref p] ∧ (SqL K H p (ys.map V.str) ∨ SqT K H p (ys.map V.str)) ∧ (ys.map (·.length)).sum + ys.length * a.length ≤ 16777216 ∧ Q (.str (Txt.join a ys)) H) fJoin := fun {W s as h H p q v w Q} rh rp rq z => by
  unfold fJoin at z
  split at z
  · cases rp
    split at z
    · rename_i ys e
      obtain ⟨xs, e1, e2⟩ := Option.bind_eq_some_iff.mp e
      obtain ⟨a, vs, rfl, h1, h2⟩ := seqOf_ok rh rq e1
      have ev := strsOf_ok h2 e2
      subst ev
      split at z
      · rename_i l
        exact ⟨_, a, ys, rfl, rfl, h1, l, Post.done z (Ext.refl _ _) rh rfl⟩
      · exact z.elim
    · exact z.elim
  · exact z.elim
theorem w_join {o e : Expr} {mo me : EM} {apos pos : Pos} (ho : PEm X W o mo) (he : PEm X W e me) (hs : starEach [e] X.env = [(false, eval e X.env)] := by rfl) (hbase : attributeBase o "join" X.env (eval o X.env) = eval o X.env := by rfl) (hline : (apos.endLine == pos.line) = true := by rfl) :
    PEm X W (.Call (.Attribute o "join" apos) [e] [] pos) (eM1 fJoin mo me) := PE_imp (pe_join ho he hs hbase hline) fun s H Q q => m1_post sn_join q
def fSplit (b : Bool) : F2 := fun p q h => match p, q with
  | .str a, .str c => if (c.length == 0) = false ∧ a.length + 2 ≤ 16777216 then mkL b ((Txt.split a c).map P.str) h else .bad
  | _, _ => .bad
theorem sn_split {b : Bool} : SndM1 K (fun x xs H Q => ∃ a b, x = .str a ∧ xs = [.str b] ∧ (b.length == 0) = false ∧ a.length + 2 ≤ sizeLine ∧ rNewStrs (Txt.split a b) H Q) (fSplit b) := fun {W s as h H p q v w Q} rh rp rq z => by
  unfold fSplit at z
  split at z
  · split at z
    · rename_i l
      cases rp
      cases rq
      exact ⟨_, _, rfl, rfl, l.1, by rw [sizeLine_eq]; exact l.2, fun p e => post_mk rh (reps_strs _) z p e⟩
    · exact z.elim
  · exact z.elim
theorem w_split (b : Bool) {o e : Expr} {mo me : EM} {apos pos : Pos} (ho : PEm X W o mo) (he : PEm X W e me) (hs : starEach [e] X.env = [(false, eval e X.env)] := by rfl) (hbase : attributeBase o "split" X.env (eval o X.env) = eval o X.env := by rfl) (hline : (apos.endLine == pos.line) = true := by rfl) :
    PEm X W (.Call (.Attribute o "split" apos) [e] [] pos) (eM1 (fSplit b) mo me) := PE_imp (pe_split ho he hs hbase hline) fun s H Q q => m1_post sn_split q
end
end AM

/-! AM12: what loops go over; for, while. -/
namespace AM
open PySem PySem.Spec PyProof.Rows L2

/-! ### enumerate(t), t a tuple -/
theorem meets_enum1 {v : Value} {o : Obj} {G : Heap → Prop} (B : Begins v o G) : Meets (Builtin.«enumerate.__new__» ⟨[.type "enumerate", v], []⟩) (fun _ R s => G s.heap ∧
      R (.ok (.ret (.ref (s.heap.push o).objs.size))) { s with heap := (s.heap.push o).push { cls := .type "enumerate", data := .fields #[.none, .bool false, .ref s.heap.objs.size, rawInt 0, .none, .none] } }) :=
  .of_wp fun prog w A R s z => by
    obtain ⟨hp, gs, ds, tk, os⟩ := s
    obtain ⟨z1, z2⟩ := z
    have subs := sub_enumerate
    have begun : ∀ {A2 : Around} {E2 : Value → Shared → Prop} {Q2 : Value → Shared → Prop}, Q2 (.ref hp.objs.size) ⟨hp.push o, gs, ds, tk, os⟩ → wpAny (model prog w) A2 (pyIter v) Q2 E2 ⟨hp, gs, ds, tk, os⟩ := fun q => B.iter prog w _ _ ⟨hp, gs, ds, tk, os⟩ _ z1 q
    wp_walk using begun
    refine (wpAny_stack_any fun _ => wpAny_pure ?_)
    split
    · rename_i c _ _ _ _ _
      cases (c == Value.type "enumerate") <;> (wp_walk using begun; exact ⟨_, rfl, z2⟩)
    · wp_walk using begun
      exact ⟨_, rfl, z2⟩
theorem enum1_begins {prog : Program} {w : World} {A : Around} {E : Value → Shared → Prop} {s : Shared} {v : Value} {o : Obj} {G : Heap → Prop} {Q : Value → Shared → Prop} (B : Begins v o G) (h1 : G s.heap)
    (h : ∀ h2, IsEnum h2 (s.heap.objs.size + 1) s.heap.objs.size 0 .none → h2.get? s.heap.objs.size = some o → (∀ b u, s.heap.get? b = some u → h2.get? b = some u) → Q (.ref (s.heap.objs.size + 1)) { s with heap := h2 }) :
    wpAny (model prog w) A (call (.type "enumerate") [v]) Q E s := by
  refine callType_new F.called_enumerate (by decide) (F.typeCall_enumerate_1 _) (F.newCall_enumerate_1 _) (fun ob => F.args_object_init_2 ob _) F.entry_enumerate_new (meets_enum1 B) ⟨h1, ?_⟩
  have z : (s.heap.push o).objs.size = s.heap.objs.size + 1 := Heap.size_push ..
  show _ ∧ _
  rw [z]
  have e0 : IsEnum ((s.heap.push o).push { cls := .type "enumerate", data := .fields #[.none, .bool false, .ref s.heap.objs.size, rawInt 0, .none, .none] }) (s.heap.objs.size + 1) s.heap.objs.size 0 .none := by
    have y := Heap.get?_push_size (s.heap.push o) (o := { cls := .type "enumerate", data := .fields #[.none, .bool false, .ref s.heap.objs.size, rawInt 0, .none, .none] }) rfl
    rw [z] at y
    exact y
  exact ⟨⟨_, e0, rfl⟩, h _ e0 (Heap.get?_push_of_some _ (Heap.get?_push_size _ B.free)) fun b u x => Heap.get?_push_of_some _ (Heap.get?_push_of_some _ x)⟩
/-- the tuple at a, each item in a new pair with its place -/
def IteT (K : PySem.W.Frag) (a : Addr) : It :=
  ⟨fun i H => ∃ (xs : List V) (x : V), SqT K H a xs ∧ xs[i]? = some x, fun i H v H2 => ∃ T x, v = .ref T ∧ H T = none ∧ H2 = upd H T (.tup [.int (i : Nat), x]) ∧ ∀ xs, SqT K H a xs → xs[i]? = some x, fun i H => ∃ xs : List V, SqT K H a xs ∧ xs.length = i⟩
theorem turn_enumT {P : Program} {w : World} {K : PySem.W.Frag} {elts : List Expr} {kk : Nat} {tpos : Pos} (a e it : Addr) (ne1 : e ≠ it) (ne2 : a ≠ e) (ne3 : a ≠ it) :
    Turn P w K (.Tuple elts kk tpos) (IteT K a) [e, it] e (fun i h => (∃ old, IsEnum h e it ((i : Nat) : Int) old) ∧ h.IsTupleIter it a i) where
  mem := List.mem_cons_self ..
  obj := fun i h st b hb => by
    obtain ⟨⟨old, he⟩, ⟨o, ho, hc, hd⟩⟩ := st
    rcases List.mem_cons.mp hb with z | z
    · subst z; exact ⟨_, he, fun v q => nomatch q⟩
    · rw [List.mem_singleton.mp z]; exact ⟨o, ho, fun v q => by rw [hd] at q; cases q⟩
  keep := fun i h h2 st k => let ⟨⟨old, he⟩, hi⟩ := st; ⟨⟨old, k e (List.mem_cons_self ..) _ he⟩, hi.at fun o q => k it (by simp) o q⟩
  item := by
    intro X hP hw hK hc i pins s σ H E I hf st hg
    subst hP hw hK
    obtain ⟨⟨old, he⟩, hit⟩ := st
    obtain ⟨xs, x, hq, hx⟩ := hg
    obtain ⟨its, rv, p, _⟩ := I.tuple hq
    obtain ⟨u0, hu, ru⟩ := rv.get hx
    have hel : e < s.heap.objs.size := Heap.lt_size he
    have hil : it < s.heap.objs.size := by obtain ⟨_, q, _⟩ := hit; exact Heap.lt_size q
    have hlt : i < its.toArray.size := by
      rw [List.size_toArray]
      exact (List.getElem?_eq_some_iff.mp hu).1
    refine wpAny_pyNext_enum_itemD (A := X.A) (Draws.tuple (A := X.A.in1) (I.ok.hd hc) it a ne3 its.toArray) he ⟨hit, p⟩ hlt ne1 (by simp [ne1, Ne.symm ne2]) fun u h2 tk hu2 ho hit2 hT hsz hk => ?_
    have eu : u = u0 := by
      have z : its[i]? = some u := by simpa using hu2
      rw [hu] at z
      exact (Option.some.inj z).symm
    subst eu
    refine ⟨_, rfl, wpAny_letOwnedTupleGo_enum (s := { s with heap := h2, toks := tk + 1 }) ho fun h3 he3 sb => ?_⟩
    have hT3 : h3.get? s.heap.objs.size = some { cls := .type "tuple", data := .seq #[.int i tk, u] } := (sb.2 _ (Nat.ne_of_gt hel)).trans hT
    have new : ObjOk X.prog X.w (upd H s.heap.objs.size (.tup [.int (i : Nat), x])) h3 s.heap.objs.size (.tup [.int (i : Nat), x]) :=
      ⟨by show 2 ≤ sizeLine; decide, [.int i tk, u], .cons ⟨_, rfl⟩ (.cons ru .nil), ⟨_, hT3, rfl, _, rfl⟩⟩
    have I1 : Inv X pins σ (upd H s.heap.objs.size (.tup [.int (i : Nat), x])) { s with heap := h3, toks := tk + 1 } :=
      I.turnedNew (ch := [e, it]) (fun b ob hb q => (sb.2 b (fun z => hb (by simp [z]))).trans (hk b ob (fun z => hb (by simp [z])) (fun z => hb (by simp [z])) q)) hf (Nat.le_refl _) new
    refine ⟨.ref s.heap.objs.size, _, I1, rfl, ⟨_, x, rfl, I.hok.fresh (Nat.le_refl _), rfl, fun ys hy => by rw [I.tuple_inj hy hq]; exact hx⟩, ⟨⟨u, ?_⟩, hit2.1.at fun o q => (sb.2 it (Ne.symm ne1)).trans q⟩, fun b hb => ?_⟩
    · have e1 : ((i + 1 : Nat) : Int) = (i : Int) + 1 := by omega
      rw [e1]
      exact he3
    · have lt : b < s.heap.objs.size := by
        rcases List.mem_cons.mp hb with z | z
        · rw [z]; exact hel
        · rw [List.mem_singleton.mp z]; exact hil
      rw [upd_ne (Nat.ne_of_lt lt)]
      exact (hf b hb).1
  done := by
    intro X hP hw hK hc i pins s σ H E I hf st hg
    subst hP hw hK
    obtain ⟨⟨old, he⟩, hit⟩ := st
    obtain ⟨xs, hq, hx⟩ := hg
    obtain ⟨its, rv, p, _⟩ := I.tuple hq
    obtain ⟨f0, f1, f2, f3, f4, f5⟩ := hf it (by simp)
    have hl := rv.length
    have hn : its.toArray.size = i := by rw [List.size_toArray, ← hl, hx]
    exact wpAny_pyNext_enum_endD (A := X.A) (Draws.tuple (A := X.A.in1) (I.ok.hd hc) it a ne3 its.toArray) he (by rw [hn]; exact ⟨hit, p⟩) fun h2 eb => ⟨rfl, I.turned (t' := s.toks) (fun b o hb q => eb b o hb q) f0 f1 f3 f4 f5⟩
  self := fun A i s Q E st h => let ⟨⟨_, he⟩, _⟩ := st; wpAny_pyIter_enum he h

def iEnumT (K : PySem.W.Frag) (ta : TA) : TI := fun σ H R => ta σ H fun vs H1 => ∃ a xs, vs = [V.ref a] ∧ SqT K H1 a xs ∧ R (IteT K a) H1
theorem pi_enumT {X : Cx} {e : Expr} {ta : TA} {p pos tpos : Pos} {elts : List Expr} {kk : Nat} (hg : Gl X "enumerate") (hm : X.mg "enumerate" = none) (ha : PA X [e] ta) (hs : starEach [e] X.env = [(false, eval e X.env)] := by rfl) :
    PI X (.Tuple elts kk tpos) (.Call (.Name "enumerate" p) [e] [] pos) (iEnumT X.K ta) := by
  refine ⟨fun pins s σ H R I h => ?_⟩
  refine Call_ (ld_blt I hg hm boot_enumerate (PyProof.Rows.callWith_type1 (thn (ha.run pos pins s σ H _ I h) fun us s1 ⟨vs, H1, I1, r1, q1⟩ => ?_) hs rfl))
  obtain ⟨a, xs, ex, hq, q⟩ := q1
  subst ex
  obtain ⟨u, rfl, ru⟩ := vals1 r1
  cases ru
  obtain ⟨its, rv, p2, hz⟩ := I1.tuple hq
  have la : a < s1.heap.objs.size := p2.lt
  refine enum1_begins (begins_tuple a its.toArray) p2 fun h2 he hit hk => wpAny_pyIter_enum he ?_
  have I2 : Inv X pins σ H1 { s1 with heap := h2 } := I1.kept (t' := s1.toks) hk
  refine ⟨s1.heap.objs.size + 1, [s1.heap.objs.size + 1, s1.heap.objs.size], _, _, H1, rfl, I2, turn_enumT a (s1.heap.objs.size + 1) s1.heap.objs.size (Nat.succ_ne_self _) (Nat.ne_of_lt (Nat.lt_succ_of_lt la)) (Nat.ne_of_lt la), ⟨⟨.none, he⟩, ⟨_, hit, rfl, rfl⟩⟩, fun b hb => ?_, q⟩
  have hle : s1.heap.objs.size ≤ b := by
    rcases List.mem_cons.mp hb with z | z
    · rw [z]; exact Nat.le_add_right _ _
    · rw [List.mem_singleton.mp z]; exact Nat.le_refl _
  exact I1.fpOk hle (I1.hok.fresh hle)
theorem PI_or {X : Cx} {tg e : Expr} {t t1 t2 : TI} (h1 : PI X tg e t1) (h2 : PI X tg e t2) (i : ∀ s H R, t s H R → t1 s H R ∨ t2 s H R) : PI X tg e t := ⟨fun pins s σ H R I q => by
  rcases i _ _ _ q with q | q
  · exact h1.run pins s σ H R I q
  · exact h2.run pins s σ H R I q⟩
theorem PI_imp {X : Cx} {tg e : Expr} {t t1 : TI} (h1 : PI X tg e t1) (i : ∀ s H R, t s H R → t1 s H R) : PI X tg e t := ⟨fun pins s σ H R I q => h1.run pins s σ H R I (i _ _ _ q)⟩

/-! ### what a loop goes over: a sequence, and the list that is watched -/
structure Src where
  xs : List P
  w : List Nat
/-- the watched lists stand -/
def Src.still (S : Src) (h0 h : AH) : Prop := ∀ n ∈ S.w, h[n]? = h0[n]?
/-- the iterator J yields xs, wherever the watched lists stand as they stood -/
def Goes2 (K : PySem.W.Frag) (J : It) (S : Src) (as0 : List Addr) (h0 : AH) (H0 : Hp) : Prop := ∀ (as : List Addr) (h : AH) (H : Hp), Ext as0 H0 as H → RelH K as h H → S.still h0 h →
  J.stop S.xs.length H ∧ ∀ (i : Nat) (p : P), S.xs[i]? = some p → J.go i H ∧ ∀ x H', J.yld i H x H' → Ext as H as H' ∧ RelH K as h H' ∧ Rep K as H' p x
abbrev IM := AM.Loc → AH → Out Src
def TIm (K : PySem.W.Frag) (W : WX) (m : IM) : TI := fun s H R => ∃ as h t, RelH K as h H ∧ RepS K as H t s ∧ (match m t h with
  | .ok S h1 => ∀ as1 H1 J, Ext as H as1 H1 → RelH K as1 h1 H1 → Goes2 K J S as1 h1 H1 → R J H1
  | .exc c p h1 => ExcP K W s as H c p h1
  | .bad => False)
abbrev PIm (X : Cx) (W : WX) (tg e : Expr) (m : IM) : Prop := PI X tg e (TIm X.K W m)
noncomputable section
variable {X : Cx} {W : WX} {K : PySem.W.Frag}
/-- from an expression's result -/
theorem post_src {α β : Type} {Rr : List Addr → Hp → α → β → Prop} {s : L2.St} {as : List Addr} {H : Hp} {o : Out α} {f : α → AH → Out Src} {R : It → Hp → Prop}
    (q : match o.bind f with
      | .ok S h1 => ∀ as1 H1 J, Ext as H as1 H1 → RelH K as1 h1 H1 → Goes2 K J S as1 h1 H1 → R J H1
      | .exc c p h1 => ExcP K W s as H c p h1
      | .bad => False) :
    Post Rr K W s as H o (fun b H1 => ∃ as1 h1 a S, Ext as H as1 H1 ∧ RelH K as1 h1 H1 ∧ Rr as1 H1 a b ∧ o = .ok a h1 ∧ ((∃ h2, f a h1 = .ok S h2 ∧ ∀ as2 H2 J, Ext as1 H1 as2 H2 → RelH K as2 h2 H2 → Goes2 K J S as2 h2 H2 → R J H2) ∨ (∃ c p h2, f a h1 = .exc c p h2 ∧ ExcP K W s as1 H1 c p h2))) := by
  cases o with
  | ok a h =>
    intro as1 H1 b x r e
    have q : match f a h with
      | .ok S h1 => ∀ as1 H1 J, Ext as H as1 H1 → RelH K as1 h1 H1 → Goes2 K J S as1 h1 H1 → R J H1
      | .exc c p h1 => ExcP K W s as H c p h1
      | .bad => False := q
    cases z : f a h with
    | ok S h2 =>
      rw [z] at q
      exact ⟨as1, h, a, S, x, r, e, rfl, .inl ⟨h2, z, fun as2 H2 J x2 => q as2 H2 J (x.trans x2)⟩⟩
    | exc c p h2 =>
      rw [z] at q
      exact ⟨as1, h, a, ⟨[], []⟩, x, r, e, rfl, .inr ⟨c, p, h2, z, ExcP.ext q x⟩⟩
    | bad => rw [z] at q; exact q.elim
  | exc c p h => exact q
  | bad => exact q

/-! ### the sources -/
def watch (h : AH) : P → List Nat
  | .obj n => [n]
  | _ => []
def srcSeq : P → AH → Out Src := fun p h => match p with
  | .tup xs => .ok ⟨xs, []⟩ h
  | .scr xs => .ok ⟨xs, []⟩ h
  | .str x => .ok ⟨x.cps.toList.map fun c => P.str ⟨#[c]⟩, []⟩ h
  | .lst xs => .ok ⟨xs, []⟩ h
  | .obj n => match h[n]? with
    | some (.lst xs) => .ok ⟨xs, [n]⟩ h
    | _ => .bad
  | _ => .bad
def iSeq (m : EM) : IM := fun t h => (m t h).bind srcSeq
/-- a list that stands in all that comes -/
theorem list_stands {as : List Addr} {h : AH} {H : Hp} {p : P} {v : V} {S : Src} {h1 : AH} (rh : RelH K as h H) (rp : Rep K as H p v) (e : srcSeq p h = .ok S h1) (n1 : ∀ xs, p ≠ .tup xs) (n2 : ∀ x, p ≠ .str x) :
    h1 = h ∧ ∃ a, v = .ref a ∧ ∀ as2 h2 H2, Ext as H as2 H2 → RelH K as2 h2 H2 → S.still h h2 → ∃ vs, SqL K H2 a vs ∧ Reps K as2 H2 S.xs vs := by
  cases p with
  | tup xs => exact absurd rfl (n1 xs)
  | str x => exact absurd rfl (n2 x)
  | scr xs =>
    cases e
    unfold Rep at rp
    obtain ⟨a, vs, o, rfl, n, h1, h2⟩ := rp
    exact ⟨rfl, a, rfl, fun as2 h3 H2 x r _ => ⟨vs, .inl (.inr ⟨o, (x.keep a _ h1 n (fun _ z => by cases z)).1⟩), h2.mono x⟩⟩
  | lst xs =>
    cases e
    unfold Rep at rp
    obtain ⟨a, vs, rfl, n, h1, h2⟩ := rp
    exact ⟨rfl, a, rfl, fun as2 h3 H2 x r _ => ⟨vs, .of (x.keep a _ h1 n (fun _ z => by cases z)).1, h2.mono x⟩⟩
  | obj n =>
    have e : (match h[n]? with
      | some (.lst xs) => Out.ok (Src.mk xs [n]) h
      | _ => .bad) = .ok S h1 := e
    unfold Rep at rp
    obtain ⟨a, rfl, ea⟩ := rp
    split at e
    · rename_i xs z
      cases e
      refine ⟨rfl, a, rfl, fun as2 h3 H2 x r st => ?_⟩
      have z2 : h3[n]? = some (.lst xs) := by rw [st n (by simp)]; exact z
      obtain ⟨vs, g1, g2⟩ := r.obj z2 (x.get ea)
      exact ⟨vs, .of g1, g2⟩
    · cases e
  | non => cases e
  | bl _ => cases e
  | int _ => cases e
  | cls _ => cases e
theorem seq_goes {a : Addr} {S : Src} {as : List Addr} {h : AH} {H : Hp} (g : ∀ as2 h2 H2, Ext as H as2 H2 → RelH K as2 h2 H2 → S.still h h2 → ∃ vs, SqL K H2 a vs ∧ Reps K as2 H2 S.xs vs) : Goes2 K (Itl K a) S as h H := by
  intro as2 h2 H2 x r st
  obtain ⟨vs, g1, g2⟩ := g as2 h2 H2 x r st
  refine ⟨⟨vs, g1, by rw [g2.len]; exact Nat.le_refl _⟩, fun i p e => ?_⟩
  obtain ⟨v, e1, e2⟩ := g2.get e
  refine ⟨⟨vs, v, g1, e1⟩, fun y H3 z => ?_⟩
  obtain ⟨z1, z2⟩ := z
  subst z1
  have e3 := z2 vs g1
  rw [e1] at e3
  cases e3
  exact ⟨Ext.refl _ _, r, e2⟩
theorem tup_goes {a : Addr} {xs : List P} {vs : List V} {as : List Addr} {h : AH} {H : Hp} (t : TupAt K as H a vs) (rr : Reps K as H xs vs) : Goes2 K (Itt K a) ⟨xs, []⟩ as h H := by
  intro as2 h2 H2 x r st
  have g1 := (x.tup t).sq
  have g2 := rr.mono x
  refine ⟨⟨vs, g1, by show vs.length ≤ xs.length; rw [g2.len]; exact Nat.le_refl _⟩, fun i p e => ?_⟩
  obtain ⟨v, e1, e2⟩ := g2.get e
  refine ⟨⟨vs, v, g1, e1⟩, fun y H3 z => ?_⟩
  obtain ⟨z1, z2⟩ := z
  subst z1
  have e3 := z2 vs g1
  rw [e1] at e3
  cases e3
  exact ⟨Ext.refl _ _, r, e2⟩
theorem str_goes {y : Str} {as : List Addr} {h : AH} {H : Hp} : Goes2 K (Its y) ⟨y.cps.toList.map fun c => P.str ⟨#[c]⟩, []⟩ as h H := by
  intro as2 h2 H2 x r st
  refine ⟨by show y.cps.size ≤ (y.cps.toList.map fun c => P.str ⟨#[c]⟩).length; simp, fun i p e => ?_⟩
  have e' : (y.cps.toList.map fun c => P.str ⟨#[c]⟩)[i]? = some p := e
  rw [List.getElem?_map] at e'
  obtain ⟨c, e1, e2⟩ := Option.map_eq_some_iff.mp e'
  have hc : y.cps[i]? = some c := by rw [← Array.getElem?_toList]; exact e1
  refine ⟨(Array.getElem?_eq_some_iff.mp hc).1, fun v H3 z => ?_⟩
  obtain ⟨z1, c2, z2, z3⟩ := z
  subst z1
  rw [hc] at z2
  cases z2
  subst e2 z3
  exact ⟨Ext.refl _ _, r, by unfold Rep; rfl⟩
theorem w_seq {tg e : Expr} {m : EM} (he : PEm X W e m) : PIm X W tg e (iSeq m) := by
  refine PI_or (PI_or (t := fun s H R => iList X.K (TEm X.K W m) s H R ∨ iTup X.K (TEm X.K W m) s H R) (pi_list he) (pi_tup he) (fun _ _ _ q => q)) (pi_str he) fun s H R q => ?_
  obtain ⟨as, h, t, rh, rs, q⟩ := q
  have z := post_src (Rr := Rep X.K) (o := m t h) (f := srcSeq) q
  -- which kind
  cases em : m t h with
  | bad => rw [em] at z; exact z.elim
  | exc c p h1 => rw [em] at z; exact .inl (.inl ⟨as, h, t, rh, rs, by rw [em]; exact z⟩)
  | ok p h1 =>
    by_cases k1 : ∃ xs, p = .tup xs
    · obtain ⟨xs, rfl⟩ := k1
      refine .inl (.inr ⟨as, h, t, rh, rs, ?_⟩)
      refine z.mono fun v H1 y => ?_
      obtain ⟨as1, h2, a, S, x1, r1, e1, eo, y⟩ := y
      rw [em] at eo
      cases eo
      unfold Rep at e1
      obtain ⟨ad, vs, rfl, t1, t2⟩ := e1
      rcases y with ⟨h3, y1, y2⟩ | ⟨c, p, h3, y1, _⟩
      · cases y1
        exact ⟨ad, rfl, ⟨vs, t1.sq⟩, y2 as1 H1 _ (Ext.refl _ _) r1 (tup_goes t1 t2)⟩
      · cases y1
    · by_cases k2 : ∃ x, p = .str x
      · obtain ⟨y0, rfl⟩ := k2
        refine .inr ⟨as, h, t, rh, rs, ?_⟩
        refine z.mono fun v H1 y => ?_
        obtain ⟨as1, h2, a, S, x1, r1, e1, eo, y⟩ := y
        rw [em] at eo
        cases eo
        rcases y with ⟨h3, y1, y2⟩ | ⟨c, p, h3, y1, _⟩
        · cases y1
          exact ⟨y0, e1, y2 as1 H1 _ (Ext.refl _ _) r1 str_goes⟩
        · cases y1
      · refine .inl (.inl ⟨as, h, t, rh, rs, ?_⟩)
        refine z.mono fun v H1 y => ?_
        obtain ⟨as1, h2, a, S, x1, r1, e1, eo, y⟩ := y
        rw [em] at eo
        cases eo
        rcases y with ⟨h3, y1, y2⟩ | ⟨c, p2, h3, y1, _⟩
        · obtain ⟨eh, ad, ev, g⟩ := list_stands r1 e1 y1 (fun xs z => k1 ⟨xs, z⟩) (fun xs z => k2 ⟨xs, z⟩)
          subst eh
          obtain ⟨vs, g1, _⟩ := g as1 h3 H1 (Ext.refl _ _) r1 (fun _ _ => rfl)
          exact ⟨ad, ev, ⟨vs, g1⟩, y2 as1 H1 _ (Ext.refl _ _) r1 (seq_goes g)⟩
        · have : ∀ p : P, srcSeq p h1 ≠ .exc c p2 h3 := by
            intro p
            unfold srcSeq
            cases p <;> try (intro z; cases z)
            rename_i n
            dsimp only
            split <;> (intro z; cases z)
          exact absurd y1 (this p)
end
end AM

/-! AM13: range, enumerate, zip; for, while. -/
namespace AM
open PySem PySem.Spec PyProof.Rows L2
noncomputable section
variable {X : Cx} {W : WX} {K : PySem.W.Frag}
theorem srcSeq_exc {p : P} {h h1 : AH} {c : Str} {p2 : P} (e : srcSeq p h = .exc c p2 h1) : False := by
  unfold srcSeq at e
  cases p <;> try (cases e)
  dsimp only at e
  split at e <;> cases e
/-- range -/
def rgS (lo hi : Int) : Src := ⟨(List.range (hi - lo).toNat).map fun i => P.int (lo + (i : Nat)), []⟩
def fitI (i : Int) : Bool := decide (-(2 ^ 62) ≤ i) && decide (i < 2 ^ 62)
def srcR1 : List P → AH → Out Src := fun xs h => match xs with
  | [.int j] => if fitI j = true then .ok (rgS 0 j) h else .bad
  | _ => .bad
def srcR2 : List P → AH → Out Src := fun xs h => match xs with
  | [.int i, .int j] => if fitI i = true ∧ fitI j = true then .ok (rgS i j) h else .bad
  | _ => .bad
def iRg1 (a : LM) : IM := fun t h => (a t h).bind srcR1
def iRg2 (a : LM) : IM := fun t h => (a t h).bind srcR2
theorem rg_goes {lo hi : Int} {n : Nat} (hn : n = (hi - lo).toNat) {as : List Addr} {h : AH} {H : Hp} : Goes2 K (Itr lo n) (rgS lo hi) as h H := by
  subst hn
  intro as2 h2 H2 x r st
  refine ⟨by show (hi - lo).toNat ≤ ((List.range (hi - lo).toNat).map fun i => P.int (lo + (i : Nat))).length; simp, fun i p e => ?_⟩
  have e' : ((List.range (hi - lo).toNat).map fun i => P.int (lo + (i : Nat)))[i]? = some p := e
  rw [List.getElem?_map] at e'
  obtain ⟨c, e1, e2⟩ := Option.map_eq_some_iff.mp e'
  obtain ⟨l, e3⟩ := List.getElem?_eq_some_iff.mp e1
  rw [List.getElem_range] at e3
  rw [List.length_range] at l
  refine ⟨l, fun v H3 z => ?_⟩
  obtain ⟨z1, z2⟩ := z
  subst z1 z2 e2 e3
  exact ⟨Ext.refl _ _, r, by unfold Rep; rfl⟩
theorem fitI_ok {i : Int} (h : fitI i = true) : -(2 ^ 62) ≤ i ∧ i < 2 ^ 62 := by
  unfold fitI at h
  rw [Bool.and_eq_true] at h
  exact ⟨of_decide_eq_true h.1, of_decide_eq_true h.2⟩
theorem w_range1 {tg a : Expr} {m : LM} {p pos : Pos} (hm : X.mg "range" = none) (ha : PAm X W [a] m) (hg : Gl X "range" := by rfl) (hs : starEach [a] X.env = [(false, eval a X.env)] := by rfl) : PIm X W tg (.Call (.Name "range" p) [a] [] pos) (iRg1 m) := by
  refine PI_imp (pi_range1 hg hm ha hs) fun s H R q => ?_
  obtain ⟨as, h, t, rh, rs, q⟩ := q
  refine ⟨as, h, t, rh, rs, (post_src (Rr := Reps X.K) (o := m t h) (f := srcR1) q).mono fun vs H1 y => ?_⟩
  obtain ⟨as1, h2, ps, S, x1, r1, e1, eo, y⟩ := y
  unfold srcR1 at y
  split at y
  · split at y
    · rename_i l
      rcases y with ⟨h3, y1, y2⟩ | ⟨c, p2, h3, y1, _⟩
      · cases y1
        obtain ⟨v, rfl, rv⟩ := reps1 e1
        cases rv
        obtain ⟨l1, l2⟩ := fitI_ok l
        exact ⟨_, rfl, l1, l2, y2 as1 H1 _ (Ext.refl _ _) r1 (rg_goes (by simp))⟩
      · cases y1
    · rcases y with ⟨h3, y1, y2⟩ | ⟨c, p2, h3, y1, _⟩ <;> cases y1
  · rcases y with ⟨h3, y1, y2⟩ | ⟨c, p2, h3, y1, _⟩ <;> cases y1
theorem w_range2 {tg a b : Expr} {m : LM} {p pos : Pos} (hm : X.mg "range" = none) (ha : PAm X W [a, b] m) (hg : Gl X "range" := by rfl) (hs : starEach [a, b] X.env = [(false, eval a X.env), (false, eval b X.env)] := by rfl) (hs2 : starEach [b] X.env = [(false, eval b X.env)] := by rfl) : PIm X W tg (.Call (.Name "range" p) [a, b] [] pos) (iRg2 m) := by
  refine PI_imp (pi_range2 hg hm ha hs hs2) fun s H R q => ?_
  obtain ⟨as, h, t, rh, rs, q⟩ := q
  refine ⟨as, h, t, rh, rs, (post_src (Rr := Reps X.K) (o := m t h) (f := srcR2) q).mono fun vs H1 y => ?_⟩
  obtain ⟨as1, h2, ps, S, x1, r1, e1, eo, y⟩ := y
  unfold srcR2 at y
  split at y
  · split at y
    · rename_i l
      rcases y with ⟨h3, y1, y2⟩ | ⟨c, p2, h3, y1, _⟩
      · cases y1
        obtain ⟨v, w, rfl, rv, rw⟩ := reps2 e1
        cases rv
        cases rw
        obtain ⟨l1, l2⟩ := fitI_ok l.1
        obtain ⟨l3, l4⟩ := fitI_ok l.2
        exact ⟨_, _, rfl, ⟨l1, l2, l3, l4⟩, y2 as1 H1 _ (Ext.refl _ _) r1 (rg_goes rfl)⟩
      · cases y1
    · rcases y with ⟨h3, y1, y2⟩ | ⟨c, p2, h3, y1, _⟩ <;> cases y1
  · rcases y with ⟨h3, y1, y2⟩ | ⟨c, p2, h3, y1, _⟩ <;> cases y1

/-! ### enumerate, zip -/
def enumP (k : Nat) : List P → List P
  | [] => []
  | p :: ps => .tup [.int (k : Nat), p] :: enumP (k + 1) ps
theorem enumP_len : ∀ (ps : List P) (k : Nat), (enumP k ps).length = ps.length
  | [], _ => rfl
  | _ :: ps, k => by simp [enumP, enumP_len ps]
theorem enumP_get : ∀ (ps : List P) (k i : Nat) (q : P), (enumP k ps)[i]? = some q → ∃ p, ps[i]? = some p ∧ q = .tup [.int ((k + i : Nat) : Int), p]
  | [], _, _, _, e => by simp [enumP] at e
  | p :: ps, k, 0, q, e => by
    simp [enumP] at e
    exact ⟨p, rfl, e.symm⟩
  | p :: ps, k, i + 1, q, e => by
    obtain ⟨p2, h1, h2⟩ := enumP_get ps (k + 1) i q (by simpa [enumP] using e)
    refine ⟨p2, by simpa using h1, ?_⟩
    rw [h2, show k + 1 + i = k + (i + 1) by omega]
def zipP : List P → List P → List P
  | p :: ps, q :: qs => .tup [p, q] :: zipP ps qs
  | _, _ => []
theorem zipP_len : ∀ (ps qs : List P), (zipP ps qs).length = min ps.length qs.length
  | [], _ => by simp [zipP]
  | _ :: _, [] => by simp [zipP]
  | p :: ps, q :: qs => by simp [zipP, zipP_len ps qs]
theorem zipP_get : ∀ (ps qs : List P) (i : Nat) (r : P), (zipP ps qs)[i]? = some r → ∃ p q, ps[i]? = some p ∧ qs[i]? = some q ∧ r = .tup [p, q]
  | [], _, _, _, e => by simp [zipP] at e
  | _ :: _, [], _, _, e => by simp [zipP] at e
  | p :: ps, q :: qs, 0, r, e => by
    simp [zipP] at e
    exact ⟨p, q, rfl, rfl, e.symm⟩
  | p :: ps, q :: qs, i + 1, r, e => by
    obtain ⟨p2, q2, h1, h2, h3⟩ := zipP_get ps qs i r (by simpa [zipP] using e)
    exact ⟨p2, q2, by simpa using h1, by simpa using h2, h3⟩
/-- a new pair is laid -/
theorem laid_pair {as : List Addr} {h : AH} {H : Hp} {p q : P} {v w : V} {T : Addr} (r : RelH K as h H) (e : H T = none) (rp : Rep K as H p v) (rq : Rep K as H q w) : Ext as H as (upd H T (.tup [v, w])) ∧ RelH K as h (upd H T (.tup [v, w])) ∧ Rep K as (upd H T (.tup [v, w])) (.tup [p, q]) (.ref T) :=
  ⟨Ext.laid r e, r.laid e, rep_tup r e (reps_cons rp (reps_cons rq reps_nil))⟩
/-- a sequence as it stands from here on: a list or a tuple -/
def SeqIn (K : PySem.W.Frag) (b : Bool) (a : Addr) (xs : List P) (w : List Nat) (as : List Addr) (h : AH) (H : Hp) : Prop :=
  ∀ as2 h2 H2, Ext as H as2 H2 → RelH K as2 h2 H2 → (∀ n ∈ w, h2[n]? = h[n]?) → ∃ vs, (if b = true then SqT K H2 a vs else SqL K H2 a vs) ∧ Reps K as2 H2 xs vs
def isTup : P → Bool
  | .tup _ => true
  | _ => false
def seqW (h : AH) (p : P) : Option (List P × List Nat) := (seqOf h p).map fun xs => (xs, watch h p)
theorem seq_in {as : List Addr} {h : AH} {H : Hp} {p : P} {v : V} {xs : List P} {w : List Nat} (rh : RelH K as h H) (rp : Rep K as H p v) (e : seqW h p = some (xs, w)) : ∃ a, v = .ref a ∧ SeqIn K (isTup p) a xs w as h H := by
  unfold seqW at e
  obtain ⟨ys, e1, e2⟩ := Option.map_eq_some_iff.mp e
  cases e2
  by_cases k1 : ∃ zs, p = .tup zs
  · obtain ⟨zs, rfl⟩ := k1
    cases e1
    unfold Rep at rp
    obtain ⟨a, vs, rfl, t, q⟩ := rp
    exact ⟨a, rfl, fun as2 h2 H2 x r _ => ⟨vs, by simpa [isTup] using (x.tup t).sq, q.mono x⟩⟩
  · have hb : isTup p = false := by
      cases p <;> first | rfl | exact absurd ⟨_, rfl⟩ k1
    have k2 : ∀ y, p ≠ .str y := fun y z => by subst z; cases e1
    have hs : srcSeq p h = .ok ⟨xs, watch h p⟩ h := by
      cases p with
      | tup zs => exact absurd ⟨_, rfl⟩ k1
      | scr zs => cases e1; rfl
      | lst zs => cases e1; rfl
      | obj n =>
        have e1 : (match h[n]? with
          | some (.lst xs) => some xs
          | _ => none) = some xs := e1
        show (match h[n]? with
          | some (.lst xs) => Out.ok (Src.mk xs [n]) h
          | _ => .bad) = .ok ⟨xs, [n]⟩ h
        split at e1
        · rename_i z
          cases e1
          rfl
        · cases e1
      | str y => exact absurd rfl (k2 y)
      | non => cases e1
      | bl _ => cases e1
      | int _ => cases e1
      | cls _ => cases e1
    obtain ⟨_, a, ev, g⟩ := list_stands rh rp hs (fun ys z => k1 ⟨ys, z⟩) k2
    refine ⟨a, ev, fun as2 h2 H2 x r st => ?_⟩
    obtain ⟨vs, g1, g2⟩ := g as2 h2 H2 x r st
    exact ⟨vs, by rw [hb]; exact g1, g2⟩
theorem SeqIn.mono {b : Bool} {a : Addr} {xs : List P} {w : List Nat} {as as1 : List Addr} {h : AH} {H H1 : Hp} (g : SeqIn K b a xs w as h H) (x : Ext as H as1 H1) {h1 : AH} (e : ∀ n ∈ w, h1[n]? = h[n]?) : SeqIn K b a xs w as1 h1 H1 :=
  fun as2 h2 H2 x2 r st => g as2 h2 H2 (x.trans x2) r fun n hn => (st n hn).trans (e n hn)
theorem enum_goes {b : Bool} {a : Addr} {xs : List P} {w : List Nat} {as : List Addr} {h : AH} {H : Hp} (g : SeqIn K b a xs w as h H) : Goes2 K (if b = true then IteT K a else Ite K a) ⟨enumP 0 xs, w⟩ as h H := by
  intro as2 h2 H2 x r st
  obtain ⟨vs, g1, g2⟩ := g as2 h2 H2 x r st
  have hl : (enumP 0 xs).length = vs.length := by rw [enumP_len]; exact g2.len
  cases b with
  | true =>
    refine ⟨⟨vs, g1, hl.symm⟩, fun i p e => ?_⟩
    obtain ⟨p2, e1, rfl⟩ := enumP_get xs 0 i p e
    obtain ⟨v, e2, e3⟩ := g2.get e1
    refine ⟨⟨vs, v, g1, e2⟩, fun y H3 z => ?_⟩
    obtain ⟨T, u, rfl, z1, rfl, z2⟩ := z
    have e4 := z2 vs g1
    rw [e2] at e4
    cases e4
    exact laid_pair r z1 (show Rep K as2 H2 (.int ((0 + i : Nat) : Int)) (.int (i : Nat)) by rw [Nat.zero_add]; unfold Rep; rfl) e3
  | false =>
    refine ⟨⟨vs, g1, Nat.le_of_eq hl.symm⟩, fun i p e => ?_⟩
    obtain ⟨p2, e1, rfl⟩ := enumP_get xs 0 i p e
    obtain ⟨v, e2, e3⟩ := g2.get e1
    refine ⟨⟨vs, v, g1, e2⟩, fun y H3 z => ?_⟩
    obtain ⟨T, u, rfl, z1, rfl, z2⟩ := z
    have e4 := z2 vs g1
    rw [e2] at e4
    cases e4
    exact laid_pair r z1 (show Rep K as2 H2 (.int ((0 + i : Nat) : Int)) (.int (i : Nat)) by rw [Nat.zero_add]; unfold Rep; rfl) e3
def srcEn : List P → AH → Out Src := fun xs h => match xs with
  | [p] => (match seqW h p with
    | some (xs, w) => .ok ⟨enumP 0 xs, w⟩ h
    | none => .bad)
  | _ => .bad
def iEn (a : LM) : IM := fun t h => (a t h).bind srcEn
theorem w_enum {e : Expr} {m : LM} {p pos tpos : Pos} {elts : List Expr} {kk : Nat} (hm : X.mg "enumerate" = none) (ha : PAm X W [e] m) (hg : Gl X "enumerate" := by rfl) (hs : starEach [e] X.env = [(false, eval e X.env)] := by rfl) :
    PIm X W (.Tuple elts kk tpos) (.Call (.Name "enumerate" p) [e] [] pos) (iEn m) := by
  refine PI_or (pi_enum hg hm ha hs) (pi_enumT hg hm ha hs) fun s H R q => ?_
  obtain ⟨as, h, t, rh, rs, q⟩ := q
  have z := post_src (Rr := Reps X.K) (o := m t h) (f := srcEn) q
  cases em : m t h with
  | bad => rw [em] at z; exact z.elim
  | exc c p h1 => rw [em] at z; exact .inl ⟨as, h, t, rh, rs, by rw [em]; exact z⟩
  | ok ps h1 =>
    by_cases hk : ∃ p, ps = [p] ∧ isTup p = true
    · obtain ⟨p, rfl, hp⟩ := hk
      refine .inr ⟨as, h, t, rh, rs, z.mono fun vs H1 y => ?_⟩
      obtain ⟨as1, h2, ps2, S, x1, r1, e1, eo, y⟩ := y
      rw [em] at eo
      cases eo
      obtain ⟨v, rfl, rv⟩ := reps1 e1
      unfold srcEn at y
      dsimp only at y
      split at y
      · rename_i xs w ew
        obtain ⟨a, rfl, g⟩ := seq_in r1 rv ew
        rcases y with ⟨h3, y1, y2⟩ | ⟨c, p2, h3, y1, _⟩
        · cases y1
          obtain ⟨vs2, g1, _⟩ := g as1 h1 H1 (Ext.refl _ _) r1 (fun _ _ => rfl)
          rw [hp] at g1 g
          exact ⟨a, vs2, rfl, g1, y2 as1 H1 _ (Ext.refl _ _) r1 (enum_goes g)⟩
        · cases y1
      · rcases y with ⟨h3, y1, y2⟩ | ⟨c, p2, h3, y1, _⟩ <;> cases y1
    · refine .inl ⟨as, h, t, rh, rs, z.mono fun vs H1 y => ?_⟩
      obtain ⟨as1, h2, ps2, S, x1, r1, e1, eo, y⟩ := y
      rw [em] at eo
      cases eo
      unfold srcEn at y
      split at y
      · rename_i p
        have hb : isTup p = false := by
          cases hb : isTup p with
          | false => rfl
          | true => exact absurd ⟨p, rfl, hb⟩ hk
        obtain ⟨v, rfl, rv⟩ := reps1 e1
        split at y
        · rename_i xs w ew
          obtain ⟨a, rfl, g⟩ := seq_in r1 rv ew
          rcases y with ⟨h3, y1, y2⟩ | ⟨c, p2, h3, y1, _⟩
          · cases y1
            obtain ⟨vs2, g1, _⟩ := g as1 h1 H1 (Ext.refl _ _) r1 (fun _ _ => rfl)
            rw [hb] at g1 g
            exact ⟨a, vs2, rfl, g1, y2 as1 H1 _ (Ext.refl _ _) r1 (enum_goes g)⟩
          · cases y1
        · rcases y with ⟨h3, y1, y2⟩ | ⟨c, p2, h3, y1, _⟩ <;> cases y1
      · rcases y with ⟨h3, y1, y2⟩ | ⟨c, p2, h3, y1, _⟩ <;> cases y1
/-- zip of two lists or two tuples -/
def srcZp : List P → AH → Out Src := fun xs h => match xs with
  | [p, q] => if isTup p = isTup q then (match seqW h p, seqW h q with
    | some (xs, w), some (ys, w2) => .ok ⟨zipP xs ys, w ++ w2⟩ h
    | _, _ => .bad) else .bad
  | _ => .bad
def iZp (a : LM) : IM := fun t h => (a t h).bind srcZp
theorem zip_goes {b : Bool} {a c : Addr} {xs ys : List P} {w w2 : List Nat} {as : List Addr} {h : AH} {H : Hp} (g : SeqIn K b a xs w as h H) (g' : SeqIn K b c ys w2 as h H) : Goes2 K (if b = true then RZ.ItzT K a c else Itz K a c) ⟨zipP xs ys, w ++ w2⟩ as h H := by
  intro as2 h2 H2 x r st
  obtain ⟨vs, g1, g2⟩ := g as2 h2 H2 x r (fun n hn => st n (List.mem_append_left _ hn))
  obtain ⟨us, g3, g4⟩ := g' as2 h2 H2 x r (fun n hn => st n (List.mem_append_right _ hn))
  have hl : (zipP xs ys).length = min vs.length us.length := by rw [zipP_len, g2.len, g4.len]
  have hm : vs.length ≤ (zipP xs ys).length ∨ us.length ≤ (zipP xs ys).length := by omega
  cases b with
  | true =>
    refine ⟨⟨vs, us, g1, g3, hm⟩, fun i p e => ?_⟩
    obtain ⟨p2, q2, e1, e2, rfl⟩ := zipP_get xs ys i p e
    obtain ⟨v, e3, e4⟩ := g2.get e1
    obtain ⟨u, e5, e6⟩ := g4.get e2
    refine ⟨⟨vs, us, v, u, g1, g3, e3, e5⟩, fun y H3 z => ?_⟩
    obtain ⟨T, v2, u2, rfl, z1, rfl, z2, z3⟩ := z
    have f1 := z2 vs g1
    have f2 := z3 us g3
    rw [e3] at f1
    rw [e5] at f2
    cases f1
    cases f2
    exact laid_pair r z1 e4 e6
  | false =>
    refine ⟨⟨vs, us, g1, g3, hm⟩, fun i p e => ?_⟩
    obtain ⟨p2, q2, e1, e2, rfl⟩ := zipP_get xs ys i p e
    obtain ⟨v, e3, e4⟩ := g2.get e1
    obtain ⟨u, e5, e6⟩ := g4.get e2
    refine ⟨⟨vs, us, v, u, g1, g3, e3, e5⟩, fun y H3 z => ?_⟩
    obtain ⟨T, v2, u2, rfl, z1, rfl, z2, z3⟩ := z
    have f1 := z2 vs g1
    have f2 := z3 us g3
    rw [e3] at f1
    rw [e5] at f2
    cases f1
    cases f2
    exact laid_pair r z1 e4 e6
theorem w_zip {e e2 : Expr} {m : LM} {p pos tpos : Pos} {elts : List Expr} {kk : Nat} (hm : X.mg "zip" = none) (ha : PAm X W [e, e2] m) (hg : Gl X "zip" := by rfl)
    (hs : starEach [e, e2] X.env = (false, eval e X.env) :: starEach [e2] X.env := by rfl) (hpl : (backTo pos (starEach [e2] X.env)).any (·.1) = false := by rfl) :
    PIm X W (.Tuple elts kk tpos) (.Call (.Name "zip" p) [e, e2] [] pos) (iZp m) := by
  refine PI_imp (RZ.pi_zipA hg hm ha hs hpl) fun s H R q => ?_
  obtain ⟨as, h, t, rh, rs, q⟩ := q
  refine ⟨as, h, t, rh, rs, (post_src (Rr := Reps X.K) (o := m t h) (f := srcZp) q).mono fun vs H1 y => ?_⟩
  obtain ⟨as1, h2, ps2, S, x1, r1, e1, eo, y⟩ := y
  unfold srcZp at y
  split at y
  · rename_i p q
    obtain ⟨v, u, rfl, rv, ru⟩ := reps2 e1
    split at y
    · rename_i hb
      split at y
      · rename_i xs w ys w2 e3 e4
        rcases y with ⟨h3, y1, y2⟩ | ⟨c, p2, h3, y1, _⟩
        · cases y1
          obtain ⟨a, rfl, g⟩ := seq_in r1 rv e3
          obtain ⟨c, rfl, g'⟩ := seq_in r1 ru e4
          obtain ⟨vs1, g1, _⟩ := g as1 h2 H1 (Ext.refl _ _) r1 (fun _ _ => rfl)
          obtain ⟨us1, g3, _⟩ := g' as1 h2 H1 (Ext.refl _ _) r1 (fun _ _ => rfl)
          rw [← hb] at g3 g'
          have fin := y2 as1 H1 _ (Ext.refl _ _) r1 (zip_goes g g')
          refine ⟨a, c, vs1, us1, rfl, ?_⟩
          cases k : isTup p with
          | true =>
            rw [k] at g1 g3 fin
            exact .inr ⟨g1, g3, fin⟩
          | false =>
            rw [k] at g1 g3 fin
            exact .inl ⟨g1, g3, fin⟩
        · cases y1
      · rcases y with ⟨h3, y1, y2⟩ | ⟨c, p2, h3, y1, _⟩ <;> cases y1
    · rcases y with ⟨h3, y1, y2⟩ | ⟨c, p2, h3, y1, _⟩ <;> cases y1
  · rcases y with ⟨h3, y1, y2⟩ | ⟨c, p2, h3, y1, _⟩ <;> cases y1

/-! ### for -/
open Classical in
def forP (S : Src) (h0 : AH) (g : GM) (b : SM) : List P → AM.Loc → AH → OutS
  | [], t, h => if S.still h0 h then .nx t h else .bad
  | p :: ps, t, h => if S.still h0 h then (match g p t h with
    | some th => (match b th.1 th.2 with
      | .nx t2 h2 => forP S h0 g b ps t2 h2
      | .ct t2 h2 => forP S h0 g b ps t2 h2
      | .bk t2 h2 => .nx t2 h2
      | o => o)
    | none => .bad) else .bad
def sFor (i : IM) (g : GM) (b : SM) : SM := fun t h => (i t h).toS t fun S h1 => forP S h1 g b S.xs t h1
theorem w_for {tg iter : Expr} {body : List Stmt} {i : IM} {g : GM} {b : SM} {pos : Pos} (hp : PassesOwn (model X.prog X.w) X.A X.env X.xe) (hc : X.calm = true) (hi : PIm X W tg iter i) (hg : PGm X tg g) (hb : PSsm X W body b)
    (hs : ∀ x, foldedSetIterable iter X.env x = pure x := by intro _; rfl) : PSm X W (.For tg iter body [] pos) (sFor i g b) := by
  refine PS_imp (ps_for hp hc hi hg hb hs) fun D s H q => ?_
  obtain ⟨as, h, t, rh, rs, q⟩ := q
  refine ⟨as, h, t, rh, rs, ?_⟩
  unfold sFor at q
  cases ei : i t h with
  | bad => rw [ei] at q; exact q
  | exc c p h1 => rw [ei] at q; exact fun as1 H1 d w x r e1 e2 => q as1 H1 s d w x r (rs.mono x) e1 e2
  | ok S h1 =>
    rw [ei] at q
    intro as1 H1 J x1 r1 G
    have q1 : PostS X.K W as1 H1 (forP S h1 g b S.xs t h1) D := PostS.ext q x1
    refine ⟨fun k m s2 H2 => k + m = S.xs.length ∧ ∃ as2 h2 t2, Ext as1 H1 as2 H2 ∧ RelH X.K as2 h2 H2 ∧ RepS X.K as2 H2 t2 s2 ∧ PostS X.K W as2 H2 (forP S h1 g b (S.xs.drop k) t2 h2) D, ⟨S.xs.length, by simp, as1, h1, t, Ext.refl _ _, r1, rs.mono x1, q1⟩, ?_⟩
    rintro k m s2 H2 ⟨hk, as2, h2, t2, x2, r2, e2, q2⟩
    by_cases hlt : k < S.xs.length
    · have ed : S.xs.drop k = S.xs[k] :: S.xs.drop (k + 1) := List.drop_eq_getElem_cons hlt
      rw [ed] at q2
      unfold forP at q2
      split at q2
      · rename_i st
        obtain ⟨_, go⟩ := G as2 h2 H2 x2 r2 st
        obtain ⟨go1, go2⟩ := go k S.xs[k] (by simp [hlt])
        refine .inr ⟨go1, fun s3 H3 => ∃ as3 h3 t3, Ext as1 H1 as3 H3 ∧ RelH X.K as3 h3 H3 ∧ RepS X.K as3 H3 t3 s3 ∧ PostS X.K W as3 H3 (forP S h1 g b (S.xs.drop (k + 1)) t3 h3) D, ?_, ?_⟩
        · rintro s3 H3 ⟨as3, h3, t3, x3, r3, e3, q3⟩
          exact ⟨m - 1, by omega, by omega, as3, h3, t3, x3, r3, e3, q3⟩
        · intro x H3 yl
          obtain ⟨x3, r3, rx⟩ := go2 x H3 yl
          refine ⟨as2, h2, t2, _, r3, e2.mono x3, rx, ?_⟩
          cases eg : g S.xs[k] t2 h2 with
          | none => rw [eg] at q2; exact q2
          | some th =>
            rw [eg] at q2
            intro as4 H4 s4 x4 r4 e4
            refine ⟨as4, th.2, th.1, r4, e4, ?_⟩
            have x24 := x3.trans x4
            dsimp only at q2
            cases eb : b th.1 th.2 with
            | bad => rw [eb] at q2; exact q2
            | nx t5 h5 =>
              rw [eb] at q2
              exact fun as5 H5 s5 x5 r5 e5 => ⟨as5, h5, t5, x2.trans (x24.trans x5), r5, e5, PostS.ext q2 (x24.trans x5)⟩
            | ct t5 h5 =>
              rw [eb] at q2
              exact fun as5 H5 s5 x5 r5 e5 => ⟨as5, h5, t5, x2.trans (x24.trans x5), r5, e5, PostS.ext q2 (x24.trans x5)⟩
            | bk t5 h5 => rw [eb] at q2; exact fun as5 H5 s5 x5 r5 e5 => q2 as5 H5 s5 (x24.trans x5) r5 e5
            | rt p h5 => rw [eb] at q2; exact fun as5 H5 s5 x5 r5 e5 => q2 as5 H5 s5 (x24.trans x5) r5 e5
            | exc c p t5 h5 => rw [eb] at q2; exact fun as5 H5 s5 d w x5 r5 e5 e6 e7 => q2 as5 H5 s5 d w (x24.trans x5) r5 e5 e6 e7
      · exact q2.elim
    · have ek : k = S.xs.length := by omega
      subst ek
      rw [List.drop_length] at q2
      unfold forP at q2
      split at q2
      · rename_i st
        obtain ⟨stop, _⟩ := G as2 h2 H2 x2 r2 st
        exact .inl ⟨stop, q2 as2 H2 s2 (Ext.refl _ _) r2 e2⟩
      · exact q2.elim
end
end AM

/-! AM14: while, a, b = x, y, list comprehensions. -/
namespace AM
open PySem PySem.Spec PyProof.Rows L2
noncomputable section
variable {X : Cx} {W : WX} {K : PySem.W.Frag}

/-! ### while -/
def OutS.turn (o : OutS) (f : AM.Loc → AH → OutS) : OutS := match o with
  | .nx t h => f t h
  | .ct t h => f t h
  | .bk t h => .nx t h
  | o => o
def whN (c : TM) (b : SM) : Nat → SM
  | 0, _, _ => .bad
  | n + 1, t, h => (c t h).toS t fun k h1 => if k = true then (b t h1).turn (whN c b n) else .nx t h1
theorem OutS.turn_mono {o : OutS} {f g : AM.Loc → AH → OutS} (hf : ∀ t h, f t h ≠ .bad → g t h = f t h) (n : o.turn f ≠ .bad) : o.turn g = o.turn f := by
  cases o with
  | nx t h => exact hf t h n
  | ct t h => exact hf t h n
  | bk t h => rfl
  | rt p h => rfl
  | exc c p t h => rfl
  | bad => rfl
theorem whN_mono {c : TM} {b : SM} : ∀ {n m : Nat} {t : AM.Loc} {h : AH}, whN c b n t h ≠ .bad → n ≤ m → whN c b m t h = whN c b n t h
  | 0, _, _, _, hn, _ => absurd rfl hn
  | n + 1, 0, _, _, _, l => absurd l (by omega)
  | n + 1, m + 1, t, h, hn, l => by
    unfold whN at hn ⊢
    cases e : c t h with
    | bad => rfl
    | exc _ _ _ => rfl
    | ok k h1 =>
      rw [e] at hn
      cases k with
      | false => rfl
      | true => exact OutS.turn_mono (fun t2 h2 z => whN_mono z (by omega)) hn
open Classical in
def sWhile (c : TM) (b : SM) : SM := fun t h => if x : ∃ n, whN c b n t h ≠ .bad then whN c b (choose x) t h else .bad
theorem sWhile_at {c : TM} {b : SM} {n : Nat} {t : AM.Loc} {h : AH} (hn : whN c b n t h ≠ .bad) : sWhile c b t h = whN c b n t h := by
  unfold sWhile
  have x : ∃ n, whN c b n t h ≠ .bad := ⟨n, hn⟩
  rw [dif_pos x]
  have y := Classical.choose_spec x
  by_cases l : n ≤ Classical.choose x
  · exact whN_mono hn l
  · exact (whN_mono y (by omega)).symm
theorem w_while {c : Expr} {body : List Stmt} {mc : TM} {mb : SM} {pos : Pos} (hp : PassesOwn (model X.prog X.w) X.A X.env X.xe) (hc : PTm X W c mc) (hb : PSsm X W body mb) : PSm X W (.While c body [] pos) (sWhile mc mb) := by
  refine PS_imp (ps_while hp hc hb) fun D s H q => ?_
  obtain ⟨as, h, t, rh, rs, q⟩ := q
  have hx : ∃ n, whN mc mb n t h ≠ .bad := by
    apply Classical.byContradiction
    intro z
    unfold sWhile at q
    rw [dif_neg z] at q
    exact q
  obtain ⟨n, hn⟩ := hx
  rw [sWhile_at hn] at q
  refine ⟨fun m s2 H2 => ∃ as2 h2 t2, RelH X.K as2 h2 H2 ∧ RepS X.K as2 H2 t2 s2 ∧ PostS X.K W as2 H2 (whN mc mb m t2 h2) D, ⟨n, as, h, t, rh, rs, q⟩, ?_⟩
  rintro m s2 H2 ⟨as2, h2, t2, r2, e2, q2⟩
  cases m with
  | zero => exact q2.elim
  | succ m =>
    unfold whN at q2
    refine ⟨as2, h2, t2, r2, e2, (PostS.toS (R := fun _ _ a b => a = b) e2 q2).mono fun k H3 z => ?_⟩
    obtain ⟨as3, h3, a, x3, r3, e3, q3⟩ := z
    subst e3
    cases a with
    | false => exact q3 as3 H3 s2 (Ext.refl _ _) r3 (e2.mono x3)
    | true =>
      refine ⟨fun s4 H4 => ∃ as4 h4 t4, RelH X.K as4 h4 H4 ∧ RepS X.K as4 H4 t4 s4 ∧ PostS X.K W as4 H4 (whN mc mb m t4 h4) D, fun s4 H4 z => ⟨m, by omega, z⟩, as3, h3, t2, r3, e2.mono x3, ?_⟩
      have q3 : PostS X.K W as3 H3 ((mb t2 h3).turn (whN mc mb m)) D := q3
      cases eb : mb t2 h3 with
      | bad => rw [eb] at q3; exact q3
      | nx t5 h5 => rw [eb] at q3; exact fun as5 H5 s5 x5 r5 e5 => ⟨as5, h5, t5, r5, e5, PostS.ext q3 x5⟩
      | ct t5 h5 => rw [eb] at q3; exact fun as5 H5 s5 x5 r5 e5 => ⟨as5, h5, t5, r5, e5, PostS.ext q3 x5⟩
      | bk t5 h5 => rw [eb] at q3; exact fun as5 H5 s5 x5 r5 e5 => q3 as5 H5 s5 x5 r5 e5
      | rt p h5 => rw [eb] at q3; exact fun as5 H5 s5 x5 r5 e5 => q3 as5 H5 s5 x5 r5 e5
      | exc c p t5 h5 => rw [eb] at q3; exact fun as5 H5 s5 d w x5 r5 e5 e6 e7 => q3 as5 H5 s5 d w x5 r5 e5 e6 e7

/-! ### a, b = x, y -/
def sPar (i j : Nat) (a : LM) : SM := fun t h => (a t h).toS t fun xs h1 => match xs with
  | [x, y] => .nx ((t.set i (some x)).set j (some y)) h1
  | _ => .bad
theorem w_par {i j : Nat} {x y : Str} {a b : Expr} {m : LM} {px py pt pos : Pos} {kt k2 pt2} (hc : X.calm = true) (hN : X.N.Nodup) (ha : PAm X W [a, b] m) (hi : X.N[i]? = some x := by rfl) (hj : X.N[j]? = some y := by rfl) (hij : i ≠ j := by decide)
    (hx : X.env.scope.names.lookup x = some .local := by rfl) (hy : X.env.scope.names.lookup y = some .local := by rfl) (hw : swappedStores [.Tuple [.Name x px, .Name y py] kt pt] (.Tuple [a, b] k2 pt2) X.env = pure (some [x, y]) := by rfl)
    (hs : swapsWithSole [.Tuple [.Name x px, .Name y py] kt pt] (.Tuple [a, b] k2 pt2) pos.line X.env = pure false := by rfl) :
    PSm X W (.Assign [.Tuple [.Name x px, .Name y py] kt pt] (.Tuple [a, b] k2 pt2) pos) (sPar i j m) := by
  refine PS_imp (ps_par hc hN hi hj hij hx hy ha hw hs) fun D s H q => ?_
  obtain ⟨as, h, t, rh, rs, q⟩ := q
  refine ⟨as, h, t, rh, rs, (PostS.toS (R := Reps X.K) rs q).mono fun vs H1 z => ?_⟩
  obtain ⟨as1, h1, ps, x1, r1, e1, q1⟩ := z
  split at q1
  · obtain ⟨v, w, rfl, rv, rw⟩ := reps2 e1
    exact ⟨v, w, rfl, q1 as1 H1 _ (Ext.refl _ _) r1 (((rs.mono x1).set rv i).set rw j)⟩
  · exact q1.elim
theorem reps3 {as : List Addr} {H : Hp} {p q r : P} {vs : List V} (z : Reps K as H [p, q, r] vs) : ∃ u v w, vs = [u, v, w] ∧ Rep K as H p u ∧ Rep K as H q v ∧ Rep K as H r w := by
  obtain ⟨v, r', rfl, h1, h2⟩ := reps_inv z
  obtain ⟨w, x, rfl, h3, h4⟩ := reps2 h2
  exact ⟨v, w, x, rfl, h1, h3, h4⟩
def sPar3 (i j l : Nat) (a : LM) : SM := fun t h => (a t h).toS t fun xs h1 => match xs with
  | [x, y, z] => .nx (((t.set i (some x)).set j (some y)).set l (some z)) h1
  | _ => .bad
theorem w_par3 {i j l : Nat} {x y z : Str} {a b c : Expr} {m : LM} {px py pz pt pos : Pos} {kt k2 pt2} (hc : X.calm = true) (hN : X.N.Nodup) (ha : PAm X W [a, b, c] m) (hi : X.N[i]? = some x := by rfl) (hj : X.N[j]? = some y := by rfl) (hl : X.N[l]? = some z := by rfl) (hij : i ≠ j := by decide) (hil : i ≠ l := by decide) (hjl : j ≠ l := by decide)
    (hx : X.env.scope.names.lookup x = some .local := by rfl) (hy : X.env.scope.names.lookup y = some .local := by rfl) (hz : X.env.scope.names.lookup z = some .local := by rfl)
    (hw : swappedStores [.Tuple [.Name x px, .Name y py, .Name z pz] kt pt] (.Tuple [a, b, c] k2 pt2) X.env = pure (some [x, y, z]) := by rfl)
    (hs : swapsWithSole [.Tuple [.Name x px, .Name y py, .Name z pz] kt pt] (.Tuple [a, b, c] k2 pt2) pos.line X.env = pure false := by rfl) :
    PSm X W (.Assign [.Tuple [.Name x px, .Name y py, .Name z pz] kt pt] (.Tuple [a, b, c] k2 pt2) pos) (sPar3 i j l m) := by
  refine PS_imp (ps_par3 hc hN hi hj hl hij hil hjl hx hy hz ha hw hs) fun D s H q => ?_
  obtain ⟨as, h, t, rh, rs, q⟩ := q
  refine ⟨as, h, t, rh, rs, (PostS.toS (R := Reps X.K) rs q).mono fun vs H1 y => ?_⟩
  obtain ⟨as1, h1, ps, x1, r1, e1, q1⟩ := y
  split at q1
  · obtain ⟨u, v, w, rfl, ru, rv, rw⟩ := reps3 e1
    exact ⟨u, v, w, rfl, q1 as1 H1 _ (Ext.refl _ _) r1 ((((rs.mono x1).set ru i).set rv j).set rw l)⟩
  · exact q1.elim
end
end AM

/-! AM15: list comprehensions. -/
namespace AM
open PySem PySem.Spec PyProof.Rows L2
noncomputable section
variable {X : Cx} {W : WX} {K : PySem.W.Frag}

/-! ### targets that store into some slots alone -/
/-- nothing but slots of vs differs -/
def Same (vs : List Nat) (s s' : L2.St) : Prop := s'.length = s.length ∧ ∀ i, i ∉ vs → s'[i]? = s[i]?
theorem Same.rfl' {vs : List Nat} {s : L2.St} : Same vs s s := ⟨rfl, fun _ _ => rfl⟩
theorem Same.tr {vs : List Nat} {a b c : L2.St} (x : Same vs a b) (y : Same vs b c) : Same vs a c := ⟨y.1.trans x.1, fun i h => (y.2 i h).trans (x.2 i h)⟩
theorem set_same {vs : List Nat} {s : L2.St} {i : Nat} {v : Option V} (h : i ∈ vs) : Same vs s (s.set i v) := ⟨by simp, fun j hj => List.getElem?_set_ne fun (e : i = j) => hj (by rw [← e]; exact h)⟩
theorem wipe_in {σ : L2.St} {i : Nat} : ∀ {vs : List Nat}, i ∈ vs → i < σ.length → (wipe σ vs)[i]? = some none
  | [], h, _ => by cases h
  | v :: vs, h, l => by
    unfold wipe
    by_cases e : v = i
    · subst e
      exact List.getElem?_set_self (by rw [wipe_length]; exact l)
    · rw [List.getElem?_set_ne e]
      refine wipe_in ?_ l
      rcases List.mem_cons.mp h with z | z
      · exact absurd z.symm e
      · exact z
theorem wipe_same {vs : List Nat} {s s' : L2.St} (x : Same vs s s') : wipe s' vs = wipe s vs := by
  apply List.ext_getElem?
  intro i
  by_cases h : i ∈ vs
  · by_cases l : i < s.length
    · rw [wipe_in h l, wipe_in h (by rw [x.1]; exact l)]
    · rw [List.getElem?_eq_none (by rw [wipe_length, x.1]; omega), List.getElem?_eq_none (by rw [wipe_length]; omega)]
  · rw [wipe_out h, wipe_out h]
    exact x.2 i h
theorem wipe_wipe {σ : L2.St} {vs : List Nat} : wipe (wipe σ vs) vs = wipe σ vs := wipe_same ⟨wipe_length _ _, fun i h => wipe_out h⟩
def TGw (K : PySem.W.Frag) (vs : List Nat) (m : GM) : TG := fun v s H Q => ∃ as h t p, RelH K as h H ∧ RepS K as H t s ∧ Rep K as H p v ∧ PostG K as H (m p t h) fun s' H' => Same vs s s' → Q s' H'
abbrev PGw (X : Cx) (vs : List Nat) (tg : Expr) (m : GM) : Prop := PG X tg (TGw X.K vs m)
def TGws (K : PySem.W.Frag) (vs : List Nat) (m : GMs) : TGs := fun us s H Q => ∃ as h t ps, RelH K as h H ∧ RepS K as H t s ∧ Reps K as H ps us ∧ PostG K as H (m ps t h) fun s' H' => Same vs s s' → Q s' H'
abbrev PGws (X : Cx) (vs : List Nat) (tg : List Expr) (m : GMs) : Prop := PGs X tg (TGws X.K vs m)
theorem wgw_name (i : Nat) {vs : List Nat} {x : Str} {pos : Pos} (hN : X.N.Nodup) (hi : X.N[i]? = some x := by rfl) (hv : i ∈ vs := by decide) (hx : L2.Loc X.env.scope x := by first | exact Or.inl rfl | exact Or.inr rfl) (hf : X.fn x = true ∨ X.env.scope.names.lookup x = some .local := by first | exact .inl rfl | exact .inr rfl | assumption) : PGw X vs (.Name x pos) (gN i) := by
  refine PG_imp (pg_name (i := i) hN hi hx hf) fun v s H Q q => ?_
  obtain ⟨as, h, t, p, rh, rs, rp, q⟩ := q
  exact q as H _ (Ext.refl _ _) rh (rs.set rp i) (set_same hv)
theorem wgws_nil {vs : List Nat} : PGws X vs [] gsN := PGs_imp pgs_nil fun us s H Q q => by
  obtain ⟨as, h, t, ps, rh, rs, rp, q⟩ := q
  cases ps with
  | nil => exact ⟨reps_inv0 rp, q as H s (Ext.refl _ _) rh rs Same.rfl'⟩
  | cons _ _ => exact q.elim
theorem wgws_cons {vs : List Nat} {e : Expr} {es : List Expr} {g : GM} {r : GMs} (h1 : PGw X vs e g) (h2 : PGws X vs es r) (hs : (assignEach (e :: es) X.env).map (·.2) = assign e X.env :: (assignEach es X.env).map (·.2) := by rfl) : PGws X vs (e :: es) (gsC g r) := by
  refine PGs_imp (pgs_cons h1 h2 hs) fun us s H Q q => ?_
  obtain ⟨as, h, t, ps, rh, rs, rp, q⟩ := q
  cases ps with
  | nil => exact q.elim
  | cons p ps =>
    obtain ⟨v, vr, rfl, r1, r2⟩ := reps_inv rp
    refine ⟨v, vr, rfl, as, h, t, p, rh, rs, r1, (PostG.bind (o := g p t h) q).mono fun s' H' z => ?_⟩
    obtain ⟨as1, h1, t1, x1, r1', e1, q3⟩ := z
    intro sm
    exact ⟨as1, h1, t1, ps, r1', e1, r2.mono x1, q3.mono fun s3 H3 y sm2 => y (sm.tr sm2)⟩
theorem wgw_tup {vs : List Nat} {es : List Expr} {k : Nat} {pos : Pos} {r : GMs} {n : Nat} (hc : X.calm = true) (hr : PGws X vs es r) (hn : (assignEach es X.env).length = n := by rfl) (hst : (assignEach es X.env).findIdx? (·.1) = none := by rfl) : PGw X vs (.Tuple es k pos) (gT n r) := by
  refine PG_imp (pg_tup hc hr hn hst) fun v s H Q q => ?_
  obtain ⟨as, h, t, p, rh, rs, rp, q⟩ := q
  unfold gT at q
  split at q
  · rename_i xs
    unfold Rep at rp
    obtain ⟨a, us, e1, e2, e3⟩ := rp
    split at q
    · rename_i l
      exact ⟨a, us, e1, e2.sq, by rw [← e3.len, l], as, h, t, xs, rh, rs, e3, q⟩
    · exact q.elim
  · exact q.elim

/-! ### tests -/
def tY : TM := fun _ h => .ok true h
abbrev PTsm (X : Cx) (W : WX) (ifs : List Expr) (m : TM) : Prop := PTs X ifs (TTm X.K W m)
theorem wts_nil : PTsm X W [] tY := ⟨fun pins s σ H Q I q => by
  obtain ⟨as, h, t, rh, rs, q⟩ := q
  exact pts_nil.run pins s σ H Q I (Post.done (R := fun _ _ a b => a = b) q (Ext.refl _ _) rh rfl)⟩
theorem wts_one {c : Expr} {m : TM} (h : PTm X W c m) : PTsm X W [c] m := pts_one h

/-! ### the list that is made -/
def wipeL (t : AM.Loc) : List Nat → AM.Loc
  | [] => t
  | v :: vs => (wipeL t vs).set v none
theorem wipeL_length (t : AM.Loc) : ∀ vs : List Nat, (wipeL t vs).length = t.length
  | [] => rfl
  | v :: vs => by unfold wipeL; rw [List.length_set, wipeL_length t vs]
theorem wipeL_some {t : AM.Loc} {i : Nat} {p : P} : ∀ {vs : List Nat}, (wipeL t vs)[i]? = some (some p) → t[i]? = some (some p) ∧ i ∉ vs
  | [], h => ⟨h, by simp⟩
  | v :: vs, h => by
    unfold wipeL at h
    by_cases hi : v = i
    · subst hi
      by_cases hv : v < (wipeL t vs).length
      · rw [List.getElem?_set_self hv] at h; cases h
      · rw [List.getElem?_eq_none (by simpa using hv)] at h; cases h
    · rw [List.getElem?_set_ne hi] at h
      obtain ⟨h1, h2⟩ := wipeL_some h
      exact ⟨h1, by simp only [List.mem_cons, not_or]; exact ⟨fun e => hi e.symm, h2⟩⟩
theorem RepS.wipe {as : List Addr} {H : Hp} {t : AM.Loc} {s : L2.St} (r : RepS K as H t s) (vs : List Nat) : RepS K as H (wipeL t vs) (L2.wipe s vs) := by
  refine ⟨by rw [wipeL_length, wipe_length]; exact r.1, fun i p e => ?_⟩
  obtain ⟨e1, e2⟩ := wipeL_some e
  obtain ⟨v, e3, e4⟩ := r.2 i p e1
  exact ⟨v, by rw [wipe_out e2]; exact e3, e4⟩
/-- after an item's reckoning: the list stands, the objects ahead of it too -/
def LcOk (n : Nat) (acc : List P) (h h4 : AH) : Prop := h4[n]? = some (.lst acc) ∧ Shut (h ++ [.lst acc]) h4
open Classical in
def lcF (S : Src) (h1 : AH) (g : GM) (c : TM) (e : EM) (t : AM.Loc) : List P → List P → AH → Out P
  | [], acc, h => if S.still h1 (h ++ [.lst acc]) ∧ Shut h1 (h ++ [.lst acc]) then .ok (.lst acc) h else .bad
  | p :: ps, acc, h => if S.still h1 (h ++ [.lst acc]) then (match g p t (h ++ [.lst acc]) with
    | some th => (match c th.1 th.2 with
      | .ok true h3 => (match e th.1 h3 with
        | .ok x h4 => if LcOk h1.length acc h h4 ∧ clean h1.length x = true ∧ acc.length < 16777216 then lcF S h1 g c e t ps (acc ++ [x]) (h4.take h1.length) else .bad
        | _ => .bad)
      | .ok false h3 => if LcOk h1.length acc h h3 then lcF S h1 g c e t ps acc (h3.take h1.length) else .bad
      | _ => .bad)
    | none => .bad) else .bad
def eLc (i : IM) (vs : List Nat) (g : GM) (c : TM) (e : EM) : EM := fun t h => (i t h).bind fun S h1 => lcF S h1 g c e (wipeL t vs) S.xs [] h1
mutual
theorem clean_mono {n m : Nat} (l : n ≤ m) : ∀ {p : P}, clean n p = true → clean m p = true
  | .non, _ => rfl
  | .bl _, _ => rfl
  | .int _, _ => rfl
  | .str _, _ => rfl
  | .cls _, _ => rfl
  | .tup xs, h => cleans_mono l (ps := xs) h
  | .lst xs, h => cleans_mono l (ps := xs) h
  | .scr xs, h => cleans_mono l (ps := xs) h
  | .obj k, h => by
    have h : decide (k < n) = true := h
    exact decide_eq_true (Nat.lt_of_lt_of_le (of_decide_eq_true h) l)
theorem cleans_mono {n m : Nat} (l : n ≤ m) : ∀ {ps : List P}, cleans n ps = true → cleans m ps = true
  | [], _ => rfl
  | p :: ps, h => by
    have h : (clean n p && cleans n ps) = true := h
    rw [Bool.and_eq_true] at h
    show (clean m p && cleans m ps) = true
    rw [clean_mono l h.1, cleans_mono l h.2]
    rfl
end
theorem cleans_app {n : Nat} {ps qs : List P} (h : cleans n ps = true) (k : cleans n qs = true) : cleans n (ps ++ qs) = true := by
  induction ps with
  | nil => exact k
  | cons p ps ih =>
    have h : (clean n p && cleans n ps) = true := h
    rw [Bool.and_eq_true] at h
    show (clean n p && cleans n (ps ++ qs)) = true
    rw [h.1, ih h.2]
    rfl
/-- the state within: D is the new list, the last of the tracked -/
structure LcSt (K : PySem.W.Frag) (as1 : List Addr) (h1 : AH) (H1 : Hp) (D : Addr) (acc : List P) (h : AH) (H : Hp) : Prop where
  len : h.length = h1.length
  ext : Ext as1 H1 (as1 ++ [D]) H
  rel : RelH K (as1 ++ [D]) (h ++ [.lst acc]) H
  cl : cleans h1.length acc = true
theorem lcst_start {as1 : List Addr} {h1 : AH} {H1 : Hp} {D : Addr} (r : RelH K as1 h1 H1) (e : H1 D = none) : LcSt K as1 h1 H1 D [] h1 (upd H1 D (.lst [])) :=
  ⟨rfl, Ext.push r e, r.push e ⟨[], upd_same, reps_nil⟩, rfl⟩
theorem take_last {h4 : AH} {n : Nat} {o : O} (e : h4[n]? = some o) : h4.take (n + 1) = h4.take n ++ [o] := by
  obtain ⟨l, rfl⟩ := List.getElem?_eq_some_iff.mp e
  rw [List.take_succ_eq_append_getElem l]
/-- back behind an item's reckoning -/
theorem LcSt.back {as1 as4 : List Addr} {h1 h h4 : AH} {H1 H H4 : Hp} {D : Addr} {acc : List P} (r1 : RelH K as1 h1 H1) (L : LcSt K as1 h1 H1 D acc h H) (x : Ext (as1 ++ [D]) H as4 H4) (r4 : RelH K as4 h4 H4) (ok : LcOk h1.length acc h h4) :
    LcSt K as1 h1 H1 D acc (h4.take h1.length) H4 ∧ Ext (as1 ++ [D]) H (as1 ++ [D]) H4 := by
  obtain ⟨x2, r2⟩ := rel_down L.rel x r4 ok.2
  have el : (h ++ [O.lst acc]).length = h1.length + 1 := by simp [L.len]
  rw [el, take_last ok.1] at r2
  refine ⟨⟨?_, L.ext.trans x2, r2, L.cl⟩, x2⟩
  have z := (List.getElem?_eq_some_iff.mp ok.1).1
  rw [List.length_take]
  omega
theorem LcSt.list {as1 : List Addr} {h1 h : AH} {H1 H : Hp} {D : Addr} {acc : List P} (r1 : RelH K as1 h1 H1) (L : LcSt K as1 h1 H1 D acc h H) : ∃ vs, H D = some (.lst vs) ∧ Reps K (as1 ++ [D]) H acc vs := by
  have e1 : (h ++ [O.lst acc])[h1.length]? = some (.lst acc) := by
    rw [← L.len]
    simp
  have e2 : (as1 ++ [D])[h1.length]? = some D := by
    rw [← r1.len]
    simp
  exact L.rel.obj e1 e2
/-- the item is put into the list -/
theorem LcSt.put {as1 : List Addr} {h1 h : AH} {H1 H : Hp} {D : Addr} {acc : List P} {vs : List V} {p : P} {v : V} (r1 : RelH K as1 h1 H1) (n1 : H1 D = none) (L : LcSt K as1 h1 H1 D acc h H) (ev : H D = some (.lst vs)) (rv : Reps K (as1 ++ [D]) H acc vs) (rp : Rep K (as1 ++ [D]) H p v) (c : clean h1.length p = true) :
    LcSt K as1 h1 H1 D (acc ++ [p]) h (upd H D (.lst (vs ++ [v]))) := by
  have e2 : (as1 ++ [D])[h1.length]? = some D := by
    rw [← r1.len]
    simp
  have x := Ext.put (o := .lst (vs ++ [v])) L.rel e2
  have r := L.rel.put e2 (u := .lst (acc ++ [p])) ⟨vs ++ [v], upd_same, (rv.app (reps_cons rp reps_nil)).mono x⟩
  refine ⟨L.len, L.ext.trans x, ?_, cleans_app L.cl (by show (clean _ p && true) = true; rw [c]; rfl)⟩
  have ez : (h ++ [O.lst acc]).set h1.length (O.lst (acc ++ [p])) = h ++ [O.lst (acc ++ [p])] := by
    rw [← L.len]
    simp
  rw [ez] at r
  exact r
theorem lc_post {as : List Addr} {h1 : AH} {H1 : Hp} {s : L2.St} {t : AM.Loc} {J : It} {S : Src} {vs : List Nat} {g : GM} {c : TM} {e : EM} {Q : VK} (r1 : RelH K as h1 H1) (rs : RepS K as H1 t s) (G : Goes2 K J S as h1 H1)
    (q : Post (Rep K) K W s as H1 (lcF S h1 g c e (wipeL t vs) S.xs [] h1) Q) (D : Addr) (hD : H1 D = none) :
    ∃ W : Nat → Nat → Hp → Prop, (∃ m, W 0 m (upd H1 D (.lst []))) ∧ ∀ i m H, W i m H →
      (J.stop i H ∧ Q (.ref D) H) ∨ (J.go i H ∧ ∃ Nx : Hp → Prop, (∀ H', Nx H' → ∃ m', m' < m ∧ W (i + 1) m' H') ∧ ∀ x H', J.yld i H x H' → TGw K vs g x (wipe s vs) H' fun σ2 H2 => wipe σ2 vs = wipe s vs ∧ TTm K W0 c σ2 H2 fun b H3 =>
        if b = true then TEm K W0 e σ2 H3 fun y H4 => ∃ acc, H4 D = some (.lst acc) ∧ acc.length < sizeLine ∧ Nx (upd H4 D (.lst (acc ++ [y]))) else Nx H3) := by
  refine ⟨fun i m H => i + m = S.xs.length ∧ ∃ acc h, LcSt K as h1 H1 D acc h H ∧ Post (Rep K) K W s as H1 (lcF S h1 g c e (wipeL t vs) (S.xs.drop i) acc h) Q, ⟨S.xs.length, by simp, [], h1, lcst_start r1 hD, q⟩, ?_⟩
  rintro i m H ⟨hm, acc, h, L, q⟩
  by_cases hlt : i < S.xs.length
  · have ed : S.xs.drop i = S.xs[i] :: S.xs.drop (i + 1) := List.drop_eq_getElem_cons hlt
    rw [ed] at q
    unfold lcF at q
    split at q
    · rename_i st
      obtain ⟨_, go⟩ := G (as ++ [D]) (h ++ [.lst acc]) H L.ext L.rel st
      obtain ⟨go1, go2⟩ := go i S.xs[i] (by simp [hlt])
      refine .inr ⟨go1, fun H5 => ∃ acc h, LcSt K as h1 H1 D acc h H5 ∧ Post (Rep K) K W s as H1 (lcF S h1 g c e (wipeL t vs) (S.xs.drop (i + 1)) acc h) Q, ?_, fun x H2 yl => ?_⟩
      · rintro H5 ⟨acc5, h5, L5, q5⟩
        exact ⟨m - 1, by omega, by omega, acc5, h5, L5, q5⟩
      · obtain ⟨x2, r2, rx⟩ := go2 x H2 yl
        refine ⟨as ++ [D], h ++ [.lst acc], wipeL t vs, _, r2, (rs.wipe vs).mono (L.ext.trans x2), rx, ?_⟩
        cases eg : g S.xs[i] (wipeL t vs) (h ++ [.lst acc]) with
        | none => rw [eg] at q; exact q.elim
        | some th =>
          rw [eg] at q
          intro as3 H3 s3 x3 r3 e3 sm
          dsimp only at q
          refine ⟨(wipe_same sm).trans wipe_wipe, as3, th.2, th.1, r3, e3, ?_⟩
          cases ec : c th.1 th.2 with
          | bad => rw [ec] at q; exact q.elim
          | exc _ _ _ => rw [ec] at q; exact q.elim
          | ok b h3 =>
            rw [ec] at q
            intro as4 H4 b4 x4 r4 e4
            subst e4
            cases b with
            | false =>
              dsimp only at q
              split at q
              · rename_i ok
                rw [if_neg Bool.false_ne_true]
                obtain ⟨L5, _⟩ := L.back r1 (x2.trans (x3.trans x4)) r4 ok
                exact ⟨acc, _, L5, q⟩
              · exact q.elim
            | true =>
              dsimp only at q
              rw [if_pos rfl]
              refine ⟨as4, h3, th.1, r4, e3.mono x4, ?_⟩
              cases ee : e th.1 h3 with
              | bad => rw [ee] at q; exact q.elim
              | exc _ _ _ => rw [ee] at q; exact q.elim
              | ok p h5 =>
                rw [ee] at q
                intro as5 H5 y x5 r5 e5
                dsimp only at q
                split at q
                · rename_i ok
                  have xx := x2.trans (x3.trans (x4.trans x5))
                  obtain ⟨L5, _⟩ := L.back r1 xx r5 ok.1
                  obtain ⟨us, e6, e7⟩ := L5.list r1
                  obtain ⟨bs, eb⟩ := xx.pre
                  rw [eb] at e5
                  have rp := e5.down (clean_mono (by rw [List.length_append, ← r1.len]; simp) ok.2.1)
                  exact ⟨us, e6, by rw [sizeLine_eq, ← e7.len]; exact ok.2.2, _, _, L5.put r1 hD e6 e7 rp ok.2.1, q⟩
                · exact q.elim
    · exact q.elim
  · have ei : i = S.xs.length := by omega
    subst ei
    rw [List.drop_length] at q
    unfold lcF at q
    split at q
    · rename_i st
      obtain ⟨stop, _⟩ := G (as ++ [D]) (h ++ [.lst acc]) H L.ext L.rel st.1
      refine .inl ⟨stop, ?_⟩
      obtain ⟨us, e6, e7⟩ := L.list r1
      obtain ⟨x3, r3⟩ := rel_down r1 L.ext L.rel st.2
      have et : (h ++ [O.lst acc]).take h1.length = h := by rw [← L.len]; simp
      rw [et] at r3
      refine q as H _ x3 r3 ?_
      unfold Rep
      refine ⟨D, us, rfl, fun z => ?_, e6, e7.down (by rw [r1.len]; exact L.cl)⟩
      exact (r1.live z).1 hD
    · exact q.elim
theorem w_lc {elt tg iter : Expr} {ifs : List Expr} {scope : Scope} {own : List (Str × Nat)} {pos : Pos} {i : IM} {g : GM} {c : TM} {e : EM} (hc : X.calm = true) (hN : X.N.Nodup) (hi : PIm X W tg iter i) (ok : BlkOk X.N X.env.scope scope own)
    (hg : ∀ (s : Shared) (H : Hp) (C : Addr) (cl : List (Str × Addr)) (fp : List Addr), PGw (X.blk s H scope (compEnvC scope cl C X.env) fp) (own.map (·.2)) tg g) (ht : ∀ (s : Shared) (H : Hp) (C : Addr) (cl : List (Str × Addr)) (fp : List Addr), PTsm (X.blk s H scope (compEnvC scope cl C X.env) fp) W0 ifs c)
    (he : ∀ (s : Shared) (H : Hp) (C : Addr) (cl : List (Str × Addr)) (fp : List Addr), PEm (X.blk s H scope (compEnvC scope cl C X.env) fp) W0 elt e) (hs : ∀ x, foldedSetIterable iter X.env x = pure x := by intro _; rfl) :
    PEm X W (.ListComp elt [⟨tg, iter, ifs, 0⟩] scope pos) (eLc i (own.map (·.2)) g c e) := by
  refine PE_imp (pe_lc (g := TGw X.K (own.map (·.2)) g) (tt := TTm X.K W0 c) (te := TEm X.K W0 e) hc hN hi ok hg ht he hs) fun s H Q q => ?_
  obtain ⟨as, h, t, rh, rs, q⟩ := q
  refine ⟨as, h, t, rh, rs, ?_⟩
  unfold eLc at q
  cases ei : i t h with
  | bad => rw [ei] at q; exact q.elim
  | exc c p h1 => rw [ei] at q; exact q
  | ok S h1 =>
    rw [ei] at q
    intro as1 H1 J x1 r1 G D hD
    exact lc_post r1 (rs.mono x1) G (Post.ext (o := lcF S h1 g c e (wipeL t (own.map (·.2))) S.xs [] h1) q x1) D hD
theorem w_setLc {k : Nat} {y : Str} {py : Pos} {elt tg iter : Expr} {ifs : List Expr} {scope : Scope} {own : List (Str × Nat)} {pos spos : Pos} {i : IM} {g : GM} {c : TM} {e : EM} (hc : X.calm = true) (hN : X.N.Nodup) (hi : PIm X W tg iter i) (ok : BlkOk X.N X.env.scope scope own)
    (hg : ∀ (s : Shared) (H : Hp) (C : Addr) (cl : List (Str × Addr)) (fp : List Addr), PGw (X.blk s H scope (compEnvC scope cl C X.env) fp) (own.map (·.2)) tg g) (ht : ∀ (s : Shared) (H : Hp) (C : Addr) (cl : List (Str × Addr)) (fp : List Addr), PTsm (X.blk s H scope (compEnvC scope cl C X.env) fp) W0 ifs c)
    (he : ∀ (s : Shared) (H : Hp) (C : Addr) (cl : List (Str × Addr)) (fp : List Addr), PEm (X.blk s H scope (compEnvC scope cl C X.env) fp) W0 elt e) (hk : X.env.scope.kind = .function := by rfl) (hy : X.N[k]? = some y := by rfl) (hyl : X.env.scope.names.lookup y = some .local := by rfl) (hline : (py.line == pos.line) = true := by rfl)
    (ha : (scope.names.any fun (n, k) => n == y && (k == .local || k == .cell)) = false := by decide) (hs : ∀ x, foldedSetIterable iter X.env x = pure x := by intro _; rfl) :
    PSm X W (.Assign [.Name y py] (.ListComp elt [⟨tg, iter, ifs, 0⟩] scope pos) spos) (sA (eLc i (own.map (·.2)) g c e) (gN k)) := by
  refine PS_imp (ps_setLc (i := k) (g := TGw X.K (own.map (·.2)) g) (tt := TTm X.K W0 c) (te := TEm X.K W0 e) hc hN hy hyl (sw_true hk hyl hline ha) hi ok hg ht he hs) fun Dn s H q => ?_
  obtain ⟨as, h, t, rh, rs, q⟩ := q
  have q := PostS.toS (R := Rep X.K) rs q
  refine ⟨as, h, t, rh, rs, ?_⟩
  unfold eLc at q
  cases ei : i t h with
  | bad => rw [ei] at q; exact q.elim
  | exc c p h1 => rw [ei] at q; exact q
  | ok S h1 =>
    rw [ei] at q
    intro as1 H1 J x1 r1 G D hD
    refine lc_post (W := W) (Q := fun x H2 => gName k x s H2 Dn.nx) r1 (rs.mono x1) G ?_ D hD
    refine (Post.ext (o := lcF S h1 g c e (wipeL t (own.map (·.2))) S.xs [] h1) q x1).mono fun b H2 z => ?_
    obtain ⟨as2, h2, a, x2, r2, e2, q2⟩ := z
    exact q2 as2 H2 _ (Ext.refl _ _) r2 ((rs.mono x2).set e2 k)
end
end AM

/-! AM16: repr, len of an own instance, t[::-1], t.index(x) behind a property. -/
namespace AM
open PySem PySem.Spec PyProof.Rows L2

/-! ### t[::-1] -/
section
variable {prog : Program} {w : World} {A : Around} {E : Value → Shared → Prop} {s : Shared}
theorem places_rev (n : Nat) : Builtin.Slice.slicePlaces ((n : Int) - 1) (-1) (-1) = n := by
  unfold Builtin.Slice.slicePlaces
  have h1 : ¬ ((-1 : Int) > 0) := by omega
  have h2 : ((n : Int) - 1 - -1 - 1) / - -1 = (n : Int) - 1 := by
    rw [show - -(1 : Int) = 1 by rfl, Int.ediv_one]
    omega
  simp only [h1, if_false, h2]
  split <;> omega
theorem range_pick {α : Type} : ∀ (ys : List α) (f : Nat → Option α), (∀ m, m < ys.length → f m = ys[m]?) → (List.range ys.length).filterMap f = ys
  | [], _, _ => rfl
  | y :: ys, f, h => by
    rw [List.length_cons, List.range_succ_eq_map, List.filterMap_cons, h 0 (by simp)]
    simp only [List.getElem?_cons_zero]
    rw [List.filterMap_map, range_pick ys (f ∘ Nat.succ) fun m hm => (h (m + 1) (by simpa using hm)).trans (by simp)]
theorem pick_rev (xs : Array Value) : ((List.range xs.size).filterMap fun (m : Nat) => xs[(((xs.size : Int) - 1) + (m : Int) * (-1)).toNat]?) = xs.toList.reverse := by
  have e2 : xs.size = xs.toList.reverse.length := by simp
  conv => lhs; rw [show List.range xs.size = List.range xs.toList.reverse.length by rw [← e2]]
  refine range_pick _ _ fun m hm => ?_
  rw [← e2] at hm
  have e1 : (((xs.size : Int) - 1) + (m : Int) * (-1)).toNat = xs.toList.length - 1 - m := by
    rw [Array.length_toList]
    omega
  rw [e1, List.getElem?_reverse (by rw [Array.length_toList]; exact hm), Array.getElem?_toList]
theorem applied_rev {sl : Addr} {vs : Value} {n : Nat} {Q : Int × Int × Nat → Shared → Prop} (hs : s.heap.IsSliceOf sl .none .none vs) (ps : IsPart vs (some (-1))) (h : Q ((n : Int) - 1, -1, n) s) :
    wpAny (model prog w) A (Builtin.Slice.sliceApplied (.ref sl) (pure (n : Int))) Q E s := by
  obtain ⟨os, o1, o2, o3⟩ := id hs
  unfold Builtin.Slice.sliceApplied Builtin.Slice.sliceFields
  refine wpAny_bind (wpAny_bind (wpAny_field o1 o3 (x := .none) rfl (wpAny_bind (wpAny_field o1 o3 (x := .none) rfl (wpAny_bind (wpAny_field o1 o3 (x := vs) rfl (wpAny_pure ?_)))))))
  refine wpAny_bind (HT.slicePart_ ps ?_)
  show wpAny _ _ (if ((-1 : Int) == 0) = true then _ else _) _ _ s
  rw [if_neg (by decide)]
  refine wpAny_bind (PyProof.Rows.slicePart_none (wpAny_bind (PyProof.Rows.slicePart_none (wpAny_bind (wpAny_pure ?_)))))
  show wpAny _ _ (pure (((n : Int) - 1), (-1 : Int), Builtin.Slice.slicePlaces ((n : Int) - 1) (-1) (-1))) _ _ s
  rw [places_rev]
  exact wpAny_pure h
theorem getItem_tuple_rev {t sl : Addr} {items : Array Value} {vs : Value} {Q : Value → Shared → Prop} (ht : IsTup s.heap t items) (hs : s.heap.IsSliceOf sl .none .none vs) (ps : IsPart vs (some (-1)))
    (h : Q (.ref s.heap.objs.size) { s with heap := s.heap.push { cls := .type "tuple", data := .seq items.toList.reverse.toArray } }) (hsz : items.size ≤ sizeLine) : wpAny (model prog w) A (getItem (.ref t) (.ref sl)) Q E s := by
  have fits : sizeOk (.seq items.toList.reverse.toArray) := by
    show items.toList.reverse.toArray.size ≤ sizeLine
    rw [List.size_toArray, List.length_reverse, Array.length_toList]
    exact hsz
  obtain ⟨os, o1, o2, o3⟩ := id hs
  have isS : s.TypeIs (.ref sl) "slice" := ⟨os, o1, o2⟩
  unfold getItem
  try with_reducible refine wpAny_holding ?_
  first | refine (wpAny_bind (wpAny_pure ?_)) | skip
  refine (wpAny_bind (wpAny_sequenceKey ht.typeIs (by decide) ?_))
  refine wpAny_bind (wpAny_callSpecial?_slot (name := Str.ofString "__getitem__") ht.typeIs PyProof.Rows.slot_tuple_getitem (wpAny_call_entry PyProof.Rows.slot_tuple_getitem ht.typeIs entry_tuple_getitem ?_ (args_tuple_getitem _ _)))
  show wpAny _ _ (Builtin.Tuple.tupleItemsOf (.ref t) >>= _) _ _ s
  refine wpAny_bind (PyProof.Rows.tupleItemsOf_ ht (wpAny_bind (wpAny_typeOf isS ?_)))
  rw [if_pos (by decide)]
  refine wpAny_bind (applied_rev hs ps ?_)
  have no : ¬ ((((items.size : Int) - 1) == 0 && (-1 : Int) == 1 && items.size == items.size) = true) := by simp
  show wpAny _ _ (if (((items.size : Int) - 1) == 0 && (-1 : Int) == 1 && items.size == items.size) = true then _ else _) _ _ s
  rw [if_neg no]
  rw [pick_rev]
  first
    | exact wpAny_bind (m := Builtin.Tuple.tupleExact _) (wpAny_newObj_type (wpAny_pure ⟨_, rfl, wpAny_pure h⟩) fits)
    | exact wpAny_bind (m := Builtin.Tuple.tupleExact _) (wpAny_newObj_type (wpAny_bind (wpAny_pure (wpAny_pure ⟨_, rfl, wpAny_pure h⟩))) fits)
    | exact wpAny_bind (wpAny_bind (m := Builtin.Tuple.tupleExact _) (wpAny_newObj_type (wpAny_pure (wpAny_pure ⟨_, rfl, wpAny_pure h⟩)) fits))
    | exact wpAny_bind (wpAny_bind (m := Builtin.Tuple.tupleExact _) (wpAny_newObj_type (wpAny_pure ⟨_, rfl, wpAny_pure h⟩) fits))
end
noncomputable section
variable {X : Cx} {W : WX} {K : PySem.W.Frag}
def revP : F1 := fun p h => match p with
  | .tup xs => .ok (.tup xs.reverse) h
  | _ => .bad
theorem w_rev {e : Expr} {m : EM} {k : Nat} {p1 p2 p3 pos : Pos} (he : PEm X W e m) : PEm X W (.Subscript e (.Slice none none (some (.UnaryOp .USub (.Constant (.int 1) k p1) p2)) p3) pos) (eU revP m) := by
  refine ⟨fun pins s σ H Q I h => ?_⟩
  obtain ⟨as, h0, t, rh, rs, q⟩ := h
  refine Subscript_ (thn (he.run pins s σ H _ I ⟨as, h0, t, rh, rs, Post.bind (R := Rep X.K) q⟩) fun v s1 z => ?_)
  obtain ⟨x, H1, I1, rx, as1, h1, p, x1, r1, e1, q1⟩ := z
  unfold revP at q1
  split at q1
  · rename_i xs
    unfold Rep at e1
    obtain ⟨a, vs, rfl, t1, t2⟩ := e1
    cases rx
    have hst : PO X (some (.UnaryOp .USub (.Constant (.int 1) k p1) p2)) (tPart (tUn (rU fun i => .int (-i)) (tC (.int 1)))) := po_some (pe_un un_neg pe_int)
    refine wpAny_Slice (thn (po_none.run pins s1 σ H1 (fun o H2 => o = none ∧ H2 = H1) I1 ⟨rfl, rfl⟩) fun vl s2 z => ?_)
    obtain ⟨l, H2, I2, pl, rfl, rfl⟩ := z
    refine thn (po_none.run pins s2 σ _ (fun o H3 => o = none ∧ H3 = _) I2 ⟨rfl, rfl⟩) fun vu s3 z => ?_
    obtain ⟨u, H3, I3, pu, rfl, rfl⟩ := z
    refine thn (hst.run pins s3 σ _ (fun o H4 => o = some (-1) ∧ H4 = _) I3 ⟨1, rfl, -1, rfl, rfl, rfl⟩) fun vt s4 z => ?_
    obtain ⟨o, H4, I4, ps, rfl, rfl⟩ := z
    cases pl
    cases pu
    have I5 := I4.kept (h' := s4.heap.push { cls := .type "slice", data := .fields #[.none, .none, vt] }) (t' := s4.toks) fun b ob q => Heap.get?_push_of_some _ q
    obtain ⟨its, r, ht, hz⟩ := I5.tuple t1.sq
    have hl := r.length
    show wpAny (model X.prog X.w) X.A (subscriptTail e (.Slice none none (some (.UnaryOp .USub (.Constant (.int 1) k p1) p2)) p3) (.ref a) (.ref s4.heap.objs.size)) (EP X pins σ Q) X.xe { s4 with heap := s4.heap.push { cls := .type "slice", data := .fields #[.none, .none, vt] } }
    refine tail_any (ops := [.ref a, .ref s4.heap.objs.size]) ht.typeIs PyProof.Rows.slot_tuple_getitem.lookup ?_ (by with_unfolding_all rfl)
    refine getItem_tuple_rev ht (Heap.IsSliceOf.new _ .none .none vt) ps ?_ (by rw [List.size_toArray]; omega)
    refine ⟨.ref _, _, I5.laid (t' := s4.toks) (o := .tup vs.reverse) (fun b ob q => Heap.get?_push_of_some _ q) (Nat.le_refl _) ?_, rfl, post_tup r1 t2.reverse q1 _ (I5.hok.fresh (Nat.le_refl _))⟩
    exact ⟨by rw [List.length_reverse]; exact hz, _, r.reverse, ⟨_, Heap.get?_push_size _ rfl, rfl, 0, by simp⟩⟩
  · exact q1.elim

/-! ### repr -/
def shownOk (d : PyData) : Bool := d.showable && !d.hasDict && decide (d.depth ≤ 60) && small d.shown.length
def fRepr : FL := fun xs h => match xs with
  | [p] => (match dat h p with
    | some d => if shownOk d = true then .ok (.str d.shown) h else .bad
    | none => .bad)
  | _ => .bad
def rRepr (K : PySem.W.Frag) : List V → Hp → VK → Prop := fun xs H Q => ∃ v d, xs = [v] ∧ Dp K H v d ∧ shownOk d = true ∧ Q (.str d.shown) H
theorem cr_repr {k : Nat} (hk : Here X k) : CallR X (.builtin "repr") (rRepr X.K) := by
  intro pins s σ H xs us Q I r h
  obtain ⟨v, d, rfl, hd, ok, q⟩ := h
  obtain ⟨u, rfl, ru⟩ := vals1 r
  unfold shownOk at ok
  rw [Bool.and_eq_true, Bool.and_eq_true, Bool.and_eq_true] at ok
  obtain ⟨⟨⟨o1, o2⟩, o3⟩, o4⟩ := ok
  have fits := small_ok o4
  have un := hk.room.un
  obtain ⟨as, rd⟩ := Dp.reads I d v u hd ru
  cases hd with
  | non =>
    cases ru
    exact PySem.P.repr_of_none ⟨.str _, H, I.tok _, ⟨_, rfl⟩, q⟩
  | bl b =>
    cases ru
    exact PySem.P.repr_of_bool ⟨.str _, H, I.tok _, ⟨_, rfl⟩, q⟩
  | int i =>
    obtain ⟨t, rfl⟩ := ru
    exact PySem.P.repr_of_int (of_decide_eq_true o1) ⟨.str _, H, I.tok _, ⟨_, rfl⟩, q⟩
  | str x =>
    obtain ⟨t, rfl⟩ := ru
    exact PySem.P.repr_of_str ⟨.str _, H, I.tok _, ⟨_, rfl⟩, q⟩ fits
  | @lst a vs ds hs ha =>
    cases ru
    have hu : X.A.units + (PyData.depth (.list ds) + 1) < cLine := by have := of_decide_eq_true o3; omega
    exact repr_of_reads' rd o1 (PyData.noDict_hsm (by simpa using o2)) hk.gd hu (fun _ _ e => e) (fun h2 u2 tk kp => ⟨.str _, H, I.kept (t' := tk) kp, ⟨_, rfl⟩, q⟩) fits
  | @tup a vs ds hs ha =>
    cases ru
    have hu : X.A.units + (PyData.depth (.tuple ds) + 1) < cLine := by have := of_decide_eq_true o3; omega
    exact repr_of_reads' rd o1 (PyData.noDict_hsm (by simpa using o2)) hk.gd hu (fun _ _ e => e) (fun h2 u2 tk kp => ⟨.str _, H, I.kept (t' := tk) kp, ⟨_, rfl⟩, q⟩) fits
theorem sn_repr : SndL K (rRepr K) fRepr := fun {W s as h H p v Q} rh rp z => by
  unfold fRepr at z
  split at z
  · obtain ⟨v, rfl, r⟩ := reps1 rp
    split at z
    · rename_i d e
      split at z
      · rename_i ok
        exact ⟨v, d, rfl, dat_ok rh r e, ok, Post.done z (Ext.refl _ _) rh rfl⟩
      · exact z.elim
    · exact z.elim
  · exact z.elim

/-! ### len of an own instance -/
def fLenO (C : Str) (m : Fn) : FL := fun xs h => match xs with
  | [p] => (match insOf h p with
    | some (_, D, _) => if D = C then (m [p] h).calm.bind fun r h2 => match r with
      | .int n => if 0 ≤ n ∧ n < 1000000 then .ok (.int n) h2 else .bad
      | _ => .bad else .bad
    | none => fLen [p] h)
  | _ => .bad
def rLenO (K : PySem.W.Frag) (C : Addr) (sp : Sp) : List V → Hp → VK → Prop := fun xs H Q => (∃ a dx vs, xs = [V.ref a] ∧ SlX.Slt H a C dx vs ∧ sp [.ref a] H (fun v H' => ∃ n, v = .int n ∧ 0 ≤ n ∧ n < 2 ^ 63 ∧ Q (.int n) H') fun _ _ _ => False) ∨ rLenA K xs H Q
theorem cr_lenO {k : Nat} {C q0 : Str} {params : Arguments} {m : Fn} (F : HasM X.prog X.w X.K X.mg X.base C "__len__" params [q0] k m) (hb : BindP params [q0]) (hk : Here X (k + 1)) : CallR X (.builtin "len") (rLenO X.K (He.ga X.K C) (spOf X.K 1 m)) := by
  obtain ⟨f, fd, qual, body, scope, hm, G, D⟩ := F.ex
  refine CallR.or ?_ cr_len
  intro pins s σ H xs us Q I r h
  obtain ⟨a, dx, vs, rfl, hsl, q⟩ := h
  obtain ⟨u, rfl, ru⟩ := vals1 r
  cases ru
  obtain ⟨sl, od, _, J, _⟩ := SlX.slt_inst I hsl
  obtain ⟨mm, hF⟩ := I.fr
  refine PySem.W.len_K hF I.ok.mod.kin J hm.at_ hm.fn (wpAny_call ?_)
  refine codeAny_mono (G.run X.A.in1 X.stack s H ⟨[.ref a], []⟩ [.ref a] [.ref a] _ (fun _ _ _ => False) hk.room.in1 hk.gd I.env0.in1 ?_ (.cons (show RelV (.ref a) (.ref a) from rfl) .nil) q) fun r s' z => ?_
  · exact D.bindsA (fun kV doc pm an cdv ct us hl => hb "__len__" qual body scope kV doc pm an cdv ct us hl) _ [.ref a] rfl
  · cases r with
    | error e =>
      obtain ⟨_, _, _, _, _, _, _, _, _, _, _, _, no⟩ := z
      exact no.elim
    | ok fl =>
      cases fl with
      | ret u =>
        obtain ⟨v, H2, I2, rv, n, rfl, n0, n1, qv⟩ := I.after z
        obtain ⟨t, rfl⟩ := rv
        exact ⟨⟨n0, n1⟩, .int n, H2, I2.tok _, ⟨_, rfl⟩, qv⟩
      | next => exact z.elim
      | brk => exact z.elim
      | cont => exact z.elim
theorem sn_lenO {C : Str} {m : Fn} : SndL K (rLenO K (He.ga K C) (spOf K 1 m)) (fLenO C m) := fun {W s as h H p v Q} rh rp z => by
  unfold fLenO at z
  split at z
  · obtain ⟨v, rfl, r⟩ := reps1 rp
    split at z
    · rename_i j D fs e
      split at z
      · rename_i eD
        subst eD
        obtain ⟨_, _, b, dx, vs, rfl, _, hsl, _⟩ := insOf_ok rh r e
        refine .inl ⟨b, dx, vs, rfl, hsl, as, h, _, rh, reps_cons r reps_nil, rfl, ?_⟩
        have z2 := Post.bind (R := Rep K) z
        refine (Post.calm (W' := fun _ _ _ _ => False) (s' := []) z2).mono fun b H1 y => ?_
        obtain ⟨as1, h1, x, x1, r1, e1, q1⟩ := y
        split at q1
        · split at q1
          · rename_i l
            cases e1
            exact ⟨_, rfl, l.1, by omega, Post.done q1 (Ext.refl _ _) r1 rfl⟩
          · exact q1.elim
        · exact q1.elim
      · exact z.elim
    · exact .inr (sn_len rh rp z)
  · exact z.elim

/-! ### a property's tuple, asked for a place -/
/-- a tuple that stands with its very object -/
def RepI (K : PySem.W.Frag) (as : List Addr) (H : Hp) (p : P) (v : V) : Prop := ∃ ys a vs o, p = .tup ys ∧ v = .ref a ∧ a ∉ as ∧ H a = some (.frz o (.tup vs)) ∧ PlainT o ∧ Reps K as H ys vs
def spI (K : PySem.W.Frag) (m : Fn) : Sp := fun vs H Q E => ∃ as h x, RelH K as h H ∧ Reps K as H [x] vs ∧ Post (RepI K) K (fun c d _ H' => E c d H') [] as H (m [x] h) Q
structure HasPI (Pr : Program) (w : World) (K : PySem.W.Frag) (mg : Str → Option Value) (base : Heap) (C mt : Str) (params : Arguments) (q0 : Str) (k : Nat) (m : Fn) : Prop where
  cls : SlX.SCls K (He.ga K C)
  ex : ∃ p g fd qual body scope, PySem.W.findIn K (.ref (He.ga K C)) mt = some (some (.ref p)) ∧ PySem.W.specialIn K (.ref p) "__get__" = some (some (.builtin "property.__get__")) ∧ PySem.W.takesIn K (.ref p) = some true ∧
    (∃ rest, PySem.W.recIn K p "property" = some (.ref g :: rest)) ∧ FnG Pr w K mg base k g fd [q0] (spI K m) ∧ FunD K mt qual params body scope [] [] g fd
def idxS (ys : List P) (q : P) : Option Nat := match q with
  | .str z => (strsOf ys).bind fun xs => if xs.idxOf z < xs.length then some (xs.idxOf z) else none
  | _ => none
def eIdx (C : Str) (m : Fn) (o e : EM) : EM := fun t h => (eProp C m o t h).bind fun x h1 => match x with
  | .tup ys => (e t h1).bind fun q h2 => match idxS ys q with
    | some j => .ok (.int (j : Nat)) h2
    | none => .bad
  | _ => .bad
theorem w_idx {k : Nat} {C mt q0 : Str} {params : Arguments} {m : Fn} {o e : Expr} {mo me : EM} {p1 apos cpos : Pos} (F : HasPI X.prog X.w X.K X.mg X.base C mt params q0 k m) (hb : BindP params [q0]) (hk : Here X (k + 1))
    (ho : PEm X W o mo) (he : PEm X W e me) (hbase1 : attributeBase o mt X.env (eval o X.env) = eval o X.env := by rfl) (hbase : attributeBase (.Attribute o mt p1) "index" X.env (eval (.Attribute o mt p1) X.env) = eval (.Attribute o mt p1) X.env := by rfl)
    (hfew : ((backTo cpos (starEach [e] X.env)).all (fun x => !x.1) && (backToKw cpos (keywordEach [] X.env)).all (fun x => x.1.isSome)
      && decide ([e].length + ([] : List Keyword).length + (if ([] : List Keyword).isEmpty then 0 else 1) < 30)) = true := by rfl)
    (hline : (apos.endLine == cpos.line) = true := by rfl) (hst : starEach [e] X.env = (false, eval e X.env) :: starEach [] X.env := by rfl) (hplain : (backTo cpos (starEach [] X.env)).any (·.1) = false := by rfl) :
    PEm X W (.Call (.Attribute (.Attribute o mt p1) "index" apos) [e] [] cpos) (eIdx C m mo me) := by
  obtain ⟨p, g, fd, qual, body, scope, h1, h2, h3, ⟨rest, h4⟩, G, D⟩ := F.ex
  -- the property
  have hp : PE X (.Attribute o mt p1) (TG_ (RepI X.K) X.K W (eProp C m mo)) := by
    refine ⟨fun pins s σ H Q I q => ?_⟩
    obtain ⟨as, h, t, rh, rs, q⟩ := q
    refine attr_of hbase1 (thn (ho.run pins s σ H _ I ⟨as, h, t, rh, rs, Post.bind (R := Rep X.K) q⟩) fun u s1 z => ?_)
    obtain ⟨v, H1, I1, rv, as1, hh1, x, x1, r1, e1, q1⟩ := z
    split at q1
    · rename_i j D' fs z
      split at q1
      · rename_i eD
        subst eD
        obtain ⟨_, _, b, dx, vs, ev, _, hsl, _⟩ := insOf_ok r1 e1 z
        subst ev
        cases rv
        obtain ⟨sl, od, _, J, _⟩ := SlX.slt_inst I1 hsl
        have I2 := I1.tok (s1.toks + 1)
        refine PySem.W.get_bind I1.kIn J (PySem.W.plainGet_of (F.cls.get mt)).1 (PySem.W.findObj_data F.cls.ic h1 h2 h3) (PySem.W.plainGet_of (F.cls.get mt)).2
          (wpAny_call (PySem.W.prop_get (s := { s1 with toks := s1.toks + 1 }) I1.kIn h4 ?_))
        refine codeAny_mono (G.run X.A.in1 X.stack _ H1 ⟨[.ref b], []⟩ [.ref b] [.ref b] Q (fun _ _ _ => False) hk.room.in1 hk.gd I2.env0.in1 ?_ (.cons (show RelV (.ref b) (.ref b) from rfl) .nil) ⟨as1, hh1, x, r1, reps_cons e1 reps_nil, Post.calm q1⟩) fun r s' hq => ?_
        · exact D.bindsA (fun kV doc pm an cdv ct us hl => hb mt qual body scope kV doc pm an cdv ct us hl) _ [.ref b] rfl
        · cases r with
          | error e =>
            obtain ⟨_, _, _, _, _, _, _, _, _, _, _, _, no⟩ := hq
            exact no.elim
          | ok fl =>
            cases fl with
            | ret u =>
              obtain ⟨v, H', I3, rv, qv⟩ := I2.after hq
              exact wpAny_of_eq (PySem.W.handedOut_of (handed_of rv)) ⟨v, H', I3, rv, qv⟩
            | next => exact hq.elim
            | brk => exact hq.elim
            | cont => exact hq.elim
      · exact q1.elim
    · exact q1.elim
  refine ⟨fun pins s σ H Q I q => ?_⟩
  obtain ⟨as, h, t, rh, rs, q⟩ := q
  refine wpAny_Call_method_late hbase hfew hline rfl (thn (hp.run pins s σ H _ I ⟨as, h, t, rh, rs, Post.bind (R := RepI X.K) q⟩) fun v s1 z => ?_)
  obtain ⟨x, H1, I1, rx, as1, hh1, y, x1, r1, e1, q1⟩ := z
  obtain ⟨ys, a, vs, ob, rfl, rfl, na, ha, po, ry⟩ := e1
  cases rx
  have hob : s1.heap.get? a = some ob := (show ObjOk X.prog X.w H1 s1.heap a (.frz ob (.tup vs)) from I1.hok a _ ha).1
  refine ⟨"tuple", "tuple.index", PySem.F.plainAttrs_tuple, PySem.F.slot_tuple_index, PySem.F.type_tuple_index, ⟨ob, hob, po.1⟩, fun b eb => ?_, ?_⟩
  · cases eb
    exact ⟨ob, hob, po.2⟩
  · have hA := he.run
    have hAA := (pa_cons he pa_nil hst).run cpos pins s1 σ H1 (fun us H2 => ∃ q, us = [q] ∧ ∃ as2 h2 w, Ext as1 H1 as2 H2 ∧ RelH X.K as2 h2 H2 ∧ Rep X.K as2 H2 w q ∧ Post (Rep X.K) X.K W σ as2 H2 (match idxS ys w with
      | some j => .ok (.int (j : Nat)) h2
      | none => .bad) Q) I1 ⟨as1, hh1, t, r1, rs.mono x1, (Post.bind (R := Rep X.K) q1).mono fun q H2 z => by
        obtain ⟨as2, h2, w, x2, r2, e2, q2⟩ := z
        exact ⟨q, rfl, as2, h2, w, x2, r2, e2, q2⟩⟩
    rw [hst] at hAA ⊢
    refine Calls.callWith_builtin (by show (false || (backTo cpos (starEach [] X.env)).any (·.1)) = false; rw [hplain] <;> rfl) (Calls.evalArgs_plain ?_)
    refine thn hAA fun us s2 z => ?_
    obtain ⟨ws, H2, I2, r2, q, rfl, as2, h2, w, x2, r3, e2, q2⟩ := z
    split at q2
    · rename_i j hj
      unfold idxS at hj
      split at hj
      · rename_i zz
        obtain ⟨xs, e3, e4⟩ := Option.bind_eq_some_iff.mp hj
        split at e4
        · rename_i l
          cases e4
          have ry2 := ry.mono x2
          have ev := strsOf_ok ry2 e3
          subst ev
          have ha2 := (x2.keep a _ ha na (fun _ z => by cases z)).1
          have sq : SqT X.K H2 a (xs.map V.str) := .inl (.inr ⟨ob, ha2⟩)
          cases e2
          refine mt_tup_index pins s2 σ H2 (.ref a) _ _ us Q I2 (show RelV (.ref a) (.ref a) from rfl) r2 ⟨a, xs, zz, xs.idxOf zz, rfl, rfl, sq, ?_, fun m hm hx => ?_, Post.done q2 (Ext.refl _ _) r3 rfl⟩
          · rw [List.getElem?_eq_getElem l, List.getElem_idxOf l]
          · have lm : m < xs.length := Nat.lt_trans hm l
            rw [List.getElem?_eq_getElem lm] at hx
            have := List.not_of_lt_findIdx hm
            simp only [Option.some.injEq] at hx
            rw [hx] at this
            simp at this
        · cases e4
      · cases hj
    · exact q2.elim
end
end AM

/-! AM17: a property whose tuple is asked for a place: its promise. -/
namespace AM
open PySem PySem.Spec PyProof.Rows L2
noncomputable section
variable {X : Cx} {W : WX} {K : PySem.W.Frag}
def fTupD : FL := fun xs h => match xs with
  | [p] => (match dctOf h p with
    | some kvs => .ok (.tup (kvs.map fun kv => keyP kv.1)) h
    | none => .bad)
  | _ => .bad
theorem sn_tupD : SndL K (rTupA K) fTupD := fun {W s as h H p v Q} rh rp z => by
  unfold fTupD at z
  split at z
  · obtain ⟨v, rfl, r⟩ := reps1 rp
    split at z
    · rename_i kvs e
      obtain ⟨a, ws, rfl, h1, h2⟩ := dctOf_ok rh r e
      exact .inr ⟨a, ws, rfl, h1, fun l o e _ => post_tup rh (keys_rep h2) z l e⟩
    · exact z.elim
  · exact z.elim
theorem w_tupI {e : Expr} {a : LM} {p pos : Pos} (hc : X.calm = true) (hm : X.mg "tuple" = none) (ha : PAm X W [e] a) (hg : Gl X "tuple" := by rfl) (hv : bootBuiltins "tuple" = some (.type "tuple") := by rfl) (he : starEach [e] X.env = (false, eval e X.env) :: starEach [] X.env := by rfl) (hpl : (backTo pos (starEach [] X.env)).any (·.1) = false := by rfl) :
    PE X (.Call (.Name "tuple" p) [e] [] pos) (TG_ (RepI X.K) X.K W (eCB fTupD a)) := PE_imp (pe_callTy (call_tupD (b := true) hc) hg hm hv ha (by decide) (by decide) he hpl) fun s H Q q => by
  obtain ⟨as, h, t, rh, rs, q⟩ := q
  refine ⟨as, h, t, rh, rs, (Post.bind (R := Reps X.K) q).mono fun v H1 z => ?_⟩
  obtain ⟨as1, h1, ps, x1, r1, e1, q1⟩ := z
  unfold fTupD at q1
  split at q1
  · obtain ⟨u, rfl, r⟩ := reps1 e1
    split at q1
    · rename_i kvs ek
      obtain ⟨ad, ws, rfl, h3, h4⟩ := dctOf_ok r1 r ek
      refine ⟨ad, ws, rfl, h3, fun l o el po => ?_⟩
      refine q1 as1 _ _ (Ext.laid r1 el) (r1.laid el) ⟨_, l, _, o, rfl, rfl, r1.new el, upd_same, po, (keys_rep h4).mono (Ext.laid r1 el)⟩
    · exact q1.elim
  · exact q1.elim
theorem trim_okI {as as' : List Addr} {h0 h : AH} {H H' : Hp} {p : P} {v : V} (r0 : RelH K as h0 H) (x : Ext as H as' H') (r : RelH K as' h H') (rv : RepI K as' H' p v) : ∃ as2, Ext as H as2 H' ∧ RelH K as2 (trim h0 p h) H' ∧ RepI K as2 H' p v := by
  unfold trim
  split
  · rename_i c
    obtain ⟨x2, r2⟩ := rel_down r0 x r c.2
    obtain ⟨bs, rfl⟩ := x.pre
    obtain ⟨ys, a, vs, o, rfl, rfl, na, ha, po, ry⟩ := rv
    exact ⟨as, x2, r2, ys, a, vs, o, rfl, rfl, fun z => na (List.mem_append_left _ z), ha, po, ry.down (by rw [r0.len]; exact c.1)⟩
  · exact ⟨as', x, r, rv⟩
theorem fnGI_mk {Pr : Program} {w : World} {K : PySem.W.Frag} {mg : Str → Option Value} {base : Heap} {k : Nat} {x qual q0 : Str} {params : Arguments} {e : Expr} {rpos : Pos} {scope : Scope} {f : Addr} {fd : FuncData}
    {N : List Str} {m : EM} (F : FunD K x qual params [.Return (some e) rpos] scope [] [] f fd) (S : FnScope N [q0] scope)
    (hb : ∀ (cdv : Value) (A : Around) (outer : List Env) (s : Shared) (H : Hp) (E : XK), Here (cxOf (CX Pr w) Pr w K mg base N qual scope f cdv A outer s H E) k → Takes (cxOf (CX Pr w) Pr w K mg base N qual scope f cdv A outer s H E) (fun c d _ H' => E c d H') →
      PE (cxOf (CX Pr w) Pr w K mg base N qual scope f cdv A outer s H E) e (TG_ (RepI K) K (fun c d _ H' => E c d H') m)) :
    FnG Pr w K mg base (k + 1) f fd [q0] (spI K (mkFn N.length (sR m))) := by
  refine fnG_of F S (fun vs H Q E q => ?_) fun cdv A outer s H vs Q E hk q => ?_
  · obtain ⟨as, h, x, _, r, _⟩ := q
    rw [← r.len]
    rfl
  · refine ⟨_, pss_one (ps_ret (hb cdv A outer s H E hk (takes_of rfl rfl rfl rfl))), ?_⟩
    obtain ⟨as, h, x, rh, r, q⟩ := q
    refine ⟨as, h, _, rh, reps_start r, ?_⟩
    unfold mkFn sR at q
    cases z : m ([x].map some ++ List.replicate (N.length - [x].length) none) h with
    | ok p h' =>
      rw [z] at q
      intro as' H' v x2 r2 rv
      obtain ⟨as2, x3, r3, rv2⟩ := trim_okI rh x2 r2 rv
      exact q as2 H' v x3 r3 rv2
    | exc c p h' =>
      rw [z] at q
      intro as' H' d w x2 r2 e1 e2
      obtain ⟨as2, x3, r3, rv2⟩ := trim_ok rh x2 r2 e2
      exact q as2 H' d w x3 r3 e1 rv2
    | bad => rw [z] at q; exact q.elim
end
end AM

/-! AM18: comparisons in a chain as values, products, the head's facts, the end of a law. -/
namespace AM
open PySem PySem.Spec PyProof.Rows L2
noncomputable section
variable {X : Cx} {W : WX} {K : PySem.W.Frag}
theorem w_chain {op op' : CmpOp} {r r' : R2} {f g : CmpF} {a b c : Expr} {ma mb mc : EM} {pos : Pos} (ho : OpR X (compareOp op) r) (hs : CmpS X.K r f) (ho' : OpR X (compareOp op') r') (hs' : CmpS X.K r' g) (ha : PEm X W a ma) (hb : PEm X W b mb) (hc : PEm X W c mc)
    (hm : lastMarks [op, op'] [b, c] = false := by with_unfolding_all rfl) : PEm X W (.Compare a [op, op'] [b, c] pos) (eCh f g ma mb mc) := by
  refine PE_imp (pe_chain ho ho' ha hb hc hm) fun s H Q q => ?_
  obtain ⟨as, h, t, rh, rs, q⟩ := q
  have q := Post.bind (R := fun _ _ (a b : Bool) => a = b) (o := tCh f g ma mb mc t h) q
  have q2 : Post (fun _ _ (a b : Bool) => a = b) X.K W s as H (tCh f g ma mb mc t h) (fun k H2 => Q (.bl k) H2) := q.mono fun k H2 z => by
    obtain ⟨as1, h1, a, x1, r1, e1, q1⟩ := z
    subst e1
    exact Post.done q1 (Ext.refl _ _) r1 rfl
  unfold tCh at q2
  refine ⟨as, h, t, rh, rs, (Post.bind (R := Rep X.K) q2).mono fun v H1 z => ?_⟩
  obtain ⟨as1, h1, p, x1, r1, e1, q1⟩ := z
  refine ⟨as1, h1, t, r1, rs.mono x1, (Post.bind (R := Rep X.K) q1).mono fun v2 H2 z => ?_⟩
  obtain ⟨as2, h2, p2, x2, r2, e2, q2⟩ := z
  unfold cmpV at q2
  split at q2
  · rename_i k e
    refine hs r2 (e1.mono x2) e2 e ⟨k, rfl, ?_⟩
    cases k with
    | true =>
      rw [if_pos rfl]
      refine ⟨as2, h2, t, r2, rs.mono (x1.trans x2), (Post.bind (R := Rep X.K) (o := mc t h2) (f := fun z h4 => cmpV g p2 z h4) q2).mono fun v3 H3 z => ?_⟩
      obtain ⟨as3, h3, p3, x3, r3, e3, q3⟩ := z
      unfold cmpV at q3
      split at q3
      · rename_i k2 e4
        exact hs' r3 (e2.mono x3) e3 e4 (Post.done (R := fun _ _ (a b : Bool) => a = b) q3 (Ext.refl _ _) r3 rfl)
      · exact q3.elim
    | false =>
      rw [if_neg Bool.false_ne_true]
      exact Post.done (R := fun _ _ (a b : Bool) => a = b) q2 (Ext.refl _ _) r2 rfl
  · exact q2.elim
/-- int * int, tuple * int -/
def rMulA (K : PySem.W.Frag) : R2 := fun x y H Q => rI CMulW (fun i j => .int (i * j)) x y H Q ∨ rRepT K x y H Q
theorem or_mul : OpR X (binaryOp .Mult) (rMulA X.K) := op_mulW.or op_repT
def vMul : F2 := orF2 vMulI vMulT
theorem sn_mul : Snd2 K (rMulA K) vMul := Snd2.or sn_mulI sn_mulT
end

/-! ### the head: what is asked of the module's part of the heap -/
abbrev Ck : Type := PySem.W.Frag → Bool
structure DefA where
  at_ : PySem.W.Frag → Addr
  name : Str
  qual : Str
  params : Arguments
  body : List Stmt
  scope : Scope
def fnA (K : PySem.W.Frag) (a : Addr) : He.FnW := match K.lookup a with
  | some ⟨_, _, .func fd, _⟩ => some (fd.name, fd.qualname, fd.params, fd.body, fd.scope, fd.globals, fd.closure, fd.builtins)
  | _ => none
def DefA.val (d : DefA) : He.FnW := some (d.name, d.qual, d.params, .stmts d.body, d.scope, mainGlobals, [], builtinsNs)
def isNo : Value → Bool
  | .none => true
  | _ => false
def DefA.ok (K : PySem.W.Frag) (d : DefA) : Bool := PySem.W.keepIn K (.ref (d.at_ K)) && (match K.lookup (d.at_ K) with
  | some ⟨_, _, .func fd, _⟩ => PySem.W.codeIn K fd.code d.qual && isNo fd.defaults
  | _ => false)
theorem DefA.funD {K : PySem.W.Frag} {d : DefA} (e : fnA K (d.at_ K) = d.val) (c : d.ok K = true) : ∃ fd, FunD K d.name d.qual d.params d.body d.scope [] [] (d.at_ K) fd := by
  obtain ⟨kp, c2⟩ := He.ba c
  unfold fnA at e
  cases q : K.lookup (d.at_ K) with
  | none => rw [q] at c2; cases c2
  | some o =>
    obtain ⟨oc, od, dt, osl⟩ := o
    rw [q] at c2 e
    cases dt with
    | func fd =>
      obtain ⟨m1, m2, m3, m4, m5, m6, m7, m8, m9, m10, m11, m12, m13, m14, m15⟩ := fd
      have e2 : (some (m1, m2, m3, m4, m5, m6, m7, m15) : He.FnW) = some (d.name, d.qual, d.params, .stmts d.body, d.scope, mainGlobals, [], builtinsNs) := e
      simp only [Option.some.injEq, Prod.mk.injEq] at e2
      obtain ⟨rfl, rfl, rfl, rfl, rfl, rfl, rfl, rfl⟩ := e2
      have c3 : (PySem.W.codeIn K m13 d.qual && isNo m8) = true := c2
      obtain ⟨k1, k2⟩ := He.ba c3
      have k3 : m8 = .none := by
        cases m8 <;> first | rfl | cases k2
      exact ⟨_, ⟨oc, od, m8, m9, m10, m11, m12, m13, m14, osl, rfl, q, k1, .inl ⟨rfl, k3⟩, .inl rfl⟩, kp⟩
    | _ => cases c2
def obsA (cs : List Ck) (fn : List DefA) (K : PySem.W.Frag) : He.AlD := ((cs.all fun f => f K) && fn.all fun d => d.ok K, fn.map fun d => fnA K (d.at_ K))
def valA (fn : List DefA) : He.AlD := (true, fn.map DefA.val)
def SaysA (cs : List Ck) (fn : List DefA) (K : PySem.W.Frag) : Prop := obsA cs fn K = valA fn
def obsAG (n : Nat) (cs : List Ck) (fn : List DefA) (g : Addr → Option Obj) : He.AlD := obsA cs fn (He.frG g (He.asD g n))
def hookA (n : Nat) (cs : List Ck) (fn : List DefA) : PySem.W.Hook where
  α := He.AlD
  obs := fun s => obsAG n cs fn s.heap.get?
  val := fun _ => valA fn
  says := fun _ h => ∃ K : PySem.W.Frag, K.In h ∧ SaysA cs fn K
  of := fun _ _ e => ⟨_, He.frG_in, e⟩
  keeps := fun _ _ _ ⟨K, hK, c⟩ k => ⟨K, PySem.W.Frag.In.keeps hK k, c⟩
theorem obsAG_eq {n : Nat} {cs : List Ck} {fn : List DefA} {g : Addr → Option Obj} {s : Shared} (h : ∀ a, g a = s.heap.get? a) : obsAG n cs fn g = (hookA n cs fn).obs s := by
  have e : g = s.heap.get? := funext h
  rw [e] <;> rfl
section
variable {cs : List Ck} {fn : List DefA} {K : PySem.W.Frag}
theorem SaysA.ck (c : SaysA cs fn K) (i : Nat) {f : Ck} (h : cs[i]? = some f := by rfl) : f K = true := by
  have c1 := (He.ba (show ((cs.all fun f => f K) && fn.all fun d => d.ok K) = true from congrArg (fun z : He.AlD => z.1) c)).1
  exact List.all_eq_true.mp c1 f (List.mem_of_getElem? h)
theorem SaysA.df (c : SaysA cs fn K) (i : Nat) {d : DefA} (h : fn[i]? = some d := by rfl) : ∃ fd, FunD K d.name d.qual d.params d.body d.scope [] [] (d.at_ K) fd := by
  have c2 := (He.ba (show ((cs.all fun f => f K) && fn.all fun d => d.ok K) = true from congrArg (fun z : He.AlD => z.1) c)).2
  have e : fn.map (fun d => fnA K (d.at_ K)) = fn.map DefA.val := congrArg (fun z : He.AlD => z.2) c
  have e2 : (fn.map fun d => fnA K (d.at_ K))[i]? = (fn.map DefA.val)[i]? := by rw [e]
  rw [List.getElem?_map, List.getElem?_map, h] at e2
  exact DefA.funD (Option.some.inj e2) (List.all_eq_true.mp c2 d (List.mem_of_getElem? h))
end

/-! ### places of defs, checks -/
def atG (x : Str) : PySem.W.Frag → Addr := fun K => He.ga K x
def atM (C m : Str) : PySem.W.Frag → Addr := fun K => He.ma K (He.ga K C) m
/-- a property's getter -/
def atP (C m : Str) : PySem.W.Frag → Addr := fun K => match PySem.W.recIn K (He.ma K (He.ga K C) m) "property" with
  | some (.ref g :: _) => g
  | _ => 0
def eqV (a b : Option Value) : Bool := decide (a = b)
/-- the name x stands for an object -/
def ckG (x : Str) : Ck := fun K => He.eqO (PySem.W.nsIn K mainGlobals x) (some (some (.ref (He.ga K x))))
/-- the name is left to the built-in ones -/
def ckF (x : Str) : Ck := fun K => He.eqO (PySem.W.nsIn K mainGlobals x) (some none)
/-- a constant -/
def relP (K : PySem.W.Frag) : P → Value → Bool
  | .non, .none => true
  | .bl b, .bool c => b == c
  | .int i, .int j _ => decide (i = j)
  | .str x, .str y _ => decide (x = y)
  | _, _ => false
theorem relP_ok {K : PySem.W.Frag} {p : P} {u : Value} (h : relP K p u = true) : ∃ v, RelV v u ∧ ∀ as H, Rep K as H p v := by
  unfold relP at h
  split at h
  · exact ⟨.non, rfl, fun _ _ => by unfold Rep; rfl⟩
  · rename_i b c
    have e : b = c := eq_of_beq h
    exact ⟨.bl b, by rw [e]; rfl, fun _ _ => by unfold Rep; rfl⟩
  · rename_i i j t
    have e : i = j := of_decide_eq_true h
    exact ⟨.int i, ⟨t, by rw [e]⟩, fun _ _ => by unfold Rep; rfl⟩
  · rename_i x y t
    have e : x = y := of_decide_eq_true h
    exact ⟨.str x, ⟨t, by rw [e]⟩, fun _ _ => by unfold Rep; rfl⟩
  · cases h
def relPs (K : PySem.W.Frag) : List P → List Value → Bool
  | [], [] => true
  | p :: ps, u :: us => relP K p u && relPs K ps us
  | _, _ => false
theorem relPs_ok {K : PySem.W.Frag} : ∀ {ps : List P} {us : List Value}, relPs K ps us = true → ∃ vs, Vals vs us ∧ ∀ as H, Reps K as H ps vs
  | [], [], _ => ⟨[], .nil, fun _ _ => reps_nil⟩
  | [], _ :: _, h => by cases h
  | _ :: _, [], h => by cases h
  | p :: ps, u :: us, h => by
    obtain ⟨h1, h2⟩ := He.ba (show (relP K p u && relPs K ps us) = true from h)
    obtain ⟨v, r1, r2⟩ := relP_ok h1
    obtain ⟨vs, r3, r4⟩ := relPs_ok h2
    exact ⟨v :: vs, .cons r1 r3, fun as H => reps_cons (r2 as H) (r4 as H)⟩
/-- x is the flat constant p -/
def ckC (x : Str) (p : P) : Ck := fun K => match PySem.W.nsIn K mainGlobals x with
  | some (some u) => relP K p u
  | _ => false
/-- x is the tuple of these flat constants -/
def ckT (x : Str) (ps : List P) : Ck := fun K => He.eqO (PySem.W.nsIn K mainGlobals x) (some (some (.ref (He.ga K x)))) && (match K.lookup (He.ga K x) with
  | some ⟨.type c, _, .seq its _, _⟩ => decide (c = "tuple") && (decide (its.size ≤ sizeLine) && relPs K ps its.toList)
  | _ => false)
section
variable {K : PySem.W.Frag} {h : Heap} {mg : Str → Option Value}
theorem ckG_ok (Y : K.In h) (G : h.Ns mainGlobals mg) {x : Str} (c : ckG x K = true) : mg x = some (.ref (He.ga K x)) := PySem.W.mg_of Y G (He.eqO_ok c)
theorem ckF_ok (Y : K.In h) (G : h.Ns mainGlobals mg) {x : Str} (c : ckF x K = true) : mg x = none := PySem.W.mg_none_of Y G (He.eqO_ok c)
theorem ckC_ok (Y : K.In h) (G : h.Ns mainGlobals mg) {x : Str} {p : P} (c : ckC x p K = true) : Glo K mg x p := by
  unfold ckC at c
  split at c
  · rename_i u e
    obtain ⟨v, r1, r2⟩ := relP_ok c
    exact ⟨⟨v, u, PySem.W.mg_of Y G e, r1, r2⟩⟩
  · cases c
theorem ckT_ok (Y : K.In h) (G : h.Ns mainGlobals mg) {x : Str} {ps : List P} (c : ckT x ps K = true) : Glo K mg x (.tup ps) := by
  obtain ⟨c1, c2⟩ := He.ba c
  have e := PySem.W.mg_of Y G (He.eqO_ok c1)
  split at c2
  · rename_i cl od its n sl lk
    obtain ⟨c3, c4⟩ := He.ba c2
    obtain ⟨c5, c6⟩ := He.ba c4
    obtain ⟨vs, r1, r2⟩ := relPs_ok c6
    refine ⟨⟨.ref (He.ga K x), _, e, rfl, fun as H => ?_⟩⟩
    unfold Rep
    exact ⟨_, vs, rfl, .inr ⟨_, its, n, lk, congrArg Value.type (of_decide_eq_true c3), rfl, of_decide_eq_true c5, r1⟩, r2 as H⟩
  · cases c2
end
/-- a class of the module with slots -/
def ckS (C : Str) : Ck := fun K => PySem.W.plainGet K (He.ga K C) Str.empty && (PySem.W.isClsIn K (He.ga K C) && (PySem.W.plainOver K (He.ga K C) && He.eqO (PySem.W.findIn K (.ref (He.ga K C)) "__setattr__") (some (some (.builtin "object.__setattr__")))))
theorem ckS_ok {K : PySem.W.Frag} {C : Str} (c : ckS C K = true) : SlX.SCls K (He.ga K C) := by
  obtain ⟨c1, c⟩ := He.ba c
  obtain ⟨c2, c⟩ := He.ba c
  obtain ⟨c3, c4⟩ := He.ba c
  exact ⟨c1, c2, c3, He.eqO_ok c4⟩
/-- its slot f, the i-th -/
def ckSl (C f : Str) (i : Nat) : Ck := fun K => He.eqO (PySem.W.findIn K (.ref (He.ga K C)) f) (some (some (.ref (He.ma K (He.ga K C) f)))) && (He.eqO (PySem.W.specialIn K (.ref (He.ma K (He.ga K C) f)) "__get__") (some (some (.builtin "member_descriptor.__get__"))) &&
  (decide (PySem.W.takesIn K (.ref (He.ma K (He.ga K C) f)) = some true) && (eqV (PySem.W.typeIn K (.ref (He.ma K (He.ga K C) f))) (some (.type "member_descriptor")) && (decide (PySem.W.slotIn K (He.ma K (He.ga K C) f) (He.ga K C) = some i) && decide (i < 1000)))))
theorem ckSl_ok {K : PySem.W.Frag} {C f : Str} {i : Nat} (s : ckS C K = true) (c : ckSl C f i K = true) : HasS K C f i := by
  obtain ⟨c1, c⟩ := He.ba c
  obtain ⟨c2, c⟩ := He.ba c
  obtain ⟨c3, c⟩ := He.ba c
  obtain ⟨c4, c⟩ := He.ba c
  obtain ⟨c5, c6⟩ := He.ba c
  exact ⟨ckS_ok s, _, He.eqO_ok c1, He.eqO_ok c2, of_decide_eq_true c3, of_decide_eq_true c4, of_decide_eq_true c5, of_decide_eq_true c6⟩
/-- its method m -/
def ckM (C m : Str) : Ck := fun K => He.eqO (PySem.W.findIn K (.ref (He.ga K C)) m) (some (some (.ref (He.ma K (He.ga K C) m)))) && (PySem.W.isFn K (.ref (He.ma K (He.ga K C) m)) && PySem.W.keepIn K (.ref (He.ma K (He.ga K C) m)))
theorem ckM_ok {K : PySem.W.Frag} {C m : Str} (c : ckM C m K = true) : Meth K (He.ga K C) m (He.ma K (He.ga K C) m) := by
  obtain ⟨c1, c⟩ := He.ba c
  obtain ⟨c2, c3⟩ := He.ba c
  exact ⟨He.eqO_ok c1, c2, c3⟩
/-- its instances -/
def ckN (C : Str) : Ck := fun K => PySem.W.makesIn K (He.ga K C) && (He.eqO (PySem.W.findIn K (.ref (He.ga K C)) "__init__") (some (some (.ref (He.ma K (He.ga K C) "__init__")))) && (PySem.W.isFn K (.ref (He.ma K (He.ga K C) "__init__")) && PySem.W.keepIn K (.ref (He.ga K C))))
theorem ckN_ok {K : PySem.W.Frag} {C : Str} (c : ckN C K = true) : Mk K (He.ga K C) (He.ma K (He.ga K C) "__init__") := by
  obtain ⟨c1, c⟩ := He.ba c
  obtain ⟨c2, c⟩ := He.ba c
  obtain ⟨c3, c4⟩ := He.ba c
  exact ⟨c1, He.eqO_ok c2, c3, c4⟩
/-- its property m -/
def ckP (C m : Str) : Ck := fun K => He.eqO (PySem.W.findIn K (.ref (He.ga K C)) m) (some (some (.ref (He.ma K (He.ga K C) m)))) && (He.eqO (PySem.W.specialIn K (.ref (He.ma K (He.ga K C) m)) "__get__") (some (some (.builtin "property.__get__"))) &&
  (decide (PySem.W.takesIn K (.ref (He.ma K (He.ga K C) m)) = some true) && (match PySem.W.recIn K (He.ma K (He.ga K C) m) "property" with
    | some (.ref _ :: _) => true
    | _ => false)))
theorem ckP_ok {K : PySem.W.Frag} {C m : Str} (c : ckP C m K = true) : PySem.W.findIn K (.ref (He.ga K C)) m = some (some (.ref (He.ma K (He.ga K C) m))) ∧ PySem.W.specialIn K (.ref (He.ma K (He.ga K C) m)) "__get__" = some (some (.builtin "property.__get__")) ∧
    PySem.W.takesIn K (.ref (He.ma K (He.ga K C) m)) = some true ∧ ∃ rest, PySem.W.recIn K (He.ma K (He.ga K C) m) "property" = some (.ref (atP C m K) :: rest) := by
  obtain ⟨c1, c⟩ := He.ba c
  obtain ⟨c2, c⟩ := He.ba c
  obtain ⟨c3, c4⟩ := He.ba c
  refine ⟨He.eqO_ok c1, He.eqO_ok c2, of_decide_eq_true c3, ?_⟩
  unfold atP
  split at c4
  · rename_i g rest e
    rw [e]
    exact ⟨rest, rfl⟩
  · cases c4
/-- no list in the module's part -/
def ckL : Ck := fun K => K.all fun p => !decide (p.2.cls = .type "list")
theorem ckL_ok {K : PySem.W.Frag} (c : ckL K = true) {a : Addr} {o : Obj} (e : K.lookup a = some o) : o.cls ≠ .type "list" := by
  unfold ckL at c
  rw [List.all_eq_true] at c
  have mem : ∀ {l : PySem.W.Frag}, l.lookup a = some o → ∃ p ∈ l, p.2 = o := by
    intro l
    induction l with
    | nil => intro e; cases e
    | cons p l ih =>
      obtain ⟨b, u⟩ := p
      intro e
      rw [List.lookup_cons] at e
      split at e
      · cases e
        exact ⟨_, List.mem_cons_self .., rfl⟩
      · obtain ⟨q, hq, e2⟩ := ih e
        exact ⟨q, List.mem_cons_of_mem _ hq, e2⟩
  obtain ⟨p, hp, e2⟩ := mem e
  have z := c p hp
  rw [e2] at z
  simpa using z
end AM

/-! AM19: the end of a law. -/
namespace AM
open PySem PySem.Spec PyProof.Rows L2
/-- the law's def answers True at the script -/
def LawIs (m : Fn) (ns : List Int) : Prop := ∃ h, m [.scr (ns.map P.int)] [] = .ok (.bl true) h
theorem reps_ints {K : PySem.W.Frag} {as : List Addr} {H : Hp} : ∀ ns : List Int, Reps K as H (ns.map P.int) (ns.map V.int)
  | [] => reps_nil
  | n :: ns => reps_cons (by unfold Rep; rfl) (reps_ints ns)
theorem law_end {P0 : Program} {w : World} {K : PySem.W.Frag} {mg mb : Str → Option Value} {k : Nat} {fa a : Addr} {fd : FuncData} {x : Str} {m : Fn} {s1 : Shared} {vs : List Value} {ns : List Int}
    (KX : K.In s1.heap) (hns : s1.heap.Ns mainGlobals mg) (hb : s1.heap.Ns builtinsNs mb) (hbb : ∀ x : Str, x ≠ "__name__" → mb x = bootBuiltins x) (hlim : s1.heap.NoLimit) (hg : s1.gens = #[])
    (ha : s1.heap.get? a = some { cls := .type "list", data := .seq vs.toArray }) (hi : IntsAre vs ns) (hl : ns.length ≤ sizeLine) (nk : ckL K = true) (hr : Room k callerA)
    (F : ∀ base : Heap, K.In base → base.Ns mainGlobals mg → FnG P0 w K mg base k fa fd [x] (spOf K 1 m)) (bind : ∀ (s : Shared) (u : Value), BindsTo s fd ⟨[u], []⟩ [(x, u)]) (hm : LawIs m ns) :
    codeAny (model P0 w) callerA (.call (.ref fa) ⟨[.ref a], []⟩) (fun r s' => r = .ok (.ret (.bool true)) ∧ OldK s1.heap s'.heap ∧ s'.os = s1.os ∧ AllBare s'.gens) s1 := by
  obtain ⟨hz, hm⟩ := hm
  have rv := vals_ints hi
  have ka : K.lookup a = none := by
    cases e : K.lookup a with
    | none => rfl
    | some o =>
      have z := KX a o e
      rw [ha] at z
      cases z
      exact absurd rfl (ckL_ok nk e)
  let ob : Obj := { cls := .type "list", data := .seq vs.toArray }
  let H0 : Hp := fun b => if b = a then some (.frz ob (.lst (ns.map V.int))) else none
  have at_a : H0 a = some (.frz ob (.lst (ns.map V.int))) := if_pos rfl
  have off_a : ∀ {b : Addr}, b ≠ a → H0 b = none := fun n => if_neg n
  have hidden : ∀ {b : Addr} {o : Obj}, s1.heap.get? b = some o → b ≠ a → (hidT s1.heap H0).get? b = some o := fun e n => hidT_get e (off_a n)
  have noD : ∀ {b : Addr} {o : Obj} {es : Array DictEntry} {ep : Nat}, s1.heap.get? b = some o → o.data = .dict es ep → b ≠ a := fun {b o es ep} e d z => by
    subst z
    rw [ha] at e
    cases e
    cases (show Data.seq vs.toArray _ = Data.dict es ep from d)
  have names : ∀ {b : Addr} {q : Str → Option Value}, s1.heap.Ns b q → (hidT s1.heap H0).Ns b q := fun {b q} z => by
    obtain ⟨o, es, ep, e, d, r⟩ := z
    exact ⟨o, es, ep, hidden e (noD e d), d, r⟩
  have inK : K.In (hidT s1.heap H0) := fun b o e => hidden (KX b o e) fun z => by
    subst z
    rw [ka] at e
    cases e
  have mod : Mod K mg (hidT s1.heap H0) := ⟨inK, names hns, ⟨mb, names hb, hbb⟩, let ⟨q, z1, z2⟩ := hlim; ⟨q, names z1, z2⟩⟩
  have okH : HOk P0 w H0 s1.heap := fun b u z => by
    by_cases e : b = a
    · subst e
      rw [at_a] at z
      cases z
      exact ⟨ha, by rw [List.length_map]; exact hl, vs, _, rv, ha⟩
    · rw [off_a e] at z
      cases z
  have env : Env0 P0 w K mg (hidT s1.heap H0) callerA [] s1 H0 := ⟨rfl, mod, fun b o e => of_hidT e, Nat.le_of_eq (hidT_size _ _), trivial, fun b hb => (List.not_mem_nil hb).elim, okH, .of_eq hg⟩
  have rel : RelH K [] [] H0 := ⟨rfl, List.nodup_nil, fun n o e => by simp at e⟩
  have rs : Reps K [] H0 [.scr (ns.map P.int)] [.ref a] := reps_cons (by unfold Rep; exact ⟨a, _, ob, rfl, by simp, at_a, reps_ints ns⟩) reps_nil
  refine codeAny_mono ((F _ inK (names hns)).run callerA [] s1 H0 ⟨[.ref a], []⟩ [.ref a] [.ref a] (fun v _ => v = .bl true) (fun _ _ _ => False) hr rfl env (bind s1 (.ref a)) (.cons rfl .nil)
    ⟨[], [], _, rel, rs, rfl, by rw [hm]; exact fun as2 H2 b _ _ e => by unfold Rep at e; exact e⟩) fun r s2 z => ?_
  cases r with
  | error e =>
    obtain ⟨_, _, _, _, _, _, _, _, _, _, _, _, no⟩ := z
    exact no.elim
  | ok fl =>
    cases fl with
    | next => exact z.elim
    | brk => exact z.elim
    | cont => exact z.elim
    | ret u =>
      obtain ⟨v, H2, os, bare, un, ok2, r2, q⟩ := z
      subst q
      obtain rfl : u = Value.bool true := r2
      refine ⟨rfl, OldK.of_keep fun b o e => ?_, os, bare⟩
      by_cases eb : b = a
      · subst eb
        have z2 := un.frzs b _ _ at_a
        have e1 := (okH b _ at_a).1
        rw [e] at e1
        cases e1
        exact (ok2 b _ z2).1
      · exact un.keep b o e (off_a eb) (fun z => (List.not_mem_nil z).elim) (List.not_mem_nil)
theorem law_walk {l : PySem.W.OpenLaw} {n k : Nat} {q : Program} {loose : List Str} {XP : (Str → Option Value) → Heap → Prop} {YP : World → Heap → Prop} {d : DefRec} {x : Str} {m : Fn}
    (hn : l.most = some n) (hn2 : n ≤ sizeLine) (hdf : d.params.defaults = []) (hr : Room k callerA)
    (F : ∀ (w : World) (mg : Str → Option Value) (fa : Addr) (h : Heap), YP w h → h.Ns mainGlobals mg → mg d.name = some (.ref fa) →
      ∃ (K : PySem.W.Frag) (fd : FuncData), K.In h ∧ ckL K = true ∧ (∀ (s : Shared) (u : Value), BindsTo s fd ⟨[u], []⟩ [(x, u)]) ∧ ∀ base : Heap, K.In base → base.Ns mainGlobals mg → FnG l.prog w K mg base k fa fd [x] (spOf K 1 m))
    (hm : ∀ ns : List Int, ns.length ≤ n → (∀ z ∈ ns, Builtin.Int.intBits z ≤ 1048576) → LawIs m ns) :
    PySem.W.WalkO q loose XP YP l.row.toRowW d [] (fun f vs => PySem.call f vs) := by
  refine Att.attach_callB hn hdf fun w s0 s1 mg mb fa o pm cd doc a vs ns G Y ho hd hcd hmg hobj hints hlen hbits hg => ?_
  obtain ⟨K, fd, KX, nk, hb, hF⟩ := F w mg fa _ Y G.T.g hmg
  exact law_end KX G.T.g G.T.b G.T.builtins G.T.nolimit hg hobj hints (Nat.le_trans hlen hn2) nk hr hF hb (hm ns hlen hbits)
theorem Here.mono {X : Cx} {j k : Nat} (h : Here X k) (l : j ≤ k) : Here X j := ⟨h.room.mono l, h.gd⟩
theorem Here.blk {X : Cx} {k : Nat} (h : Here X k) (s : Shared) (H : Hp) (scope : Scope) (env : Env) (fp : List Addr) : Here (X.blk s H scope env fp) k := ⟨h.room, h.gd⟩
end AM

/-! AM20: unpacking of tuples and lists alike. -/
namespace AM
open PySem PySem.Spec PyProof.Rows L2
noncomputable section
variable {X : Cx} {W : WX} {K : PySem.W.Frag}
def gU (n : Nat) (r : GMs) : GM := fun p t h => match p with
  | .tup xs => if xs.length = n then r xs t h else none
  | p => gL n r p t h
theorem PG_two {tg : Expr} {t t1 t2 : TG} (h1 : PG X tg t1) (h2 : PG X tg t2) (i : ∀ v s H Q, t v s H Q → t1 v s H Q ∨ t2 v s H Q) : PG X tg t := ⟨fun pins s σ H v u Q I r q => by
  rcases i _ _ _ _ q with q | q
  · exact h1.run pins s σ H v u Q I r q
  · exact h2.run pins s σ H v u Q I r q⟩
theorem wg_unp {es : List Expr} {k : Nat} {pos : Pos} {r : GMs} {n : Nat} (hc : X.calm = true) (hr : PGms X es r) (hn : (assignEach es X.env).length = n := by rfl) (hst : (assignEach es X.env).findIdx? (·.1) = none := by rfl) : PGm X (.Tuple es k pos) (gU n r) := by
  refine PG_two (wg_tup hc hr hn hst) (wg_lst hc hr hn hst) fun v s H Q q => ?_
  obtain ⟨as, h, t, p, rh, rs, rp, q⟩ := q
  unfold gU at q
  split at q
  · exact .inl ⟨as, h, t, _, rh, rs, rp, q⟩
  · exact .inr ⟨as, h, t, _, rh, rs, rp, q⟩
end
/-- a class's member -/
def memS (c : Stmt) (j : Nat) : Stmt := match c with
  | .ClassDef _ _ _ body _ _ _ _ _ _ _ => body.getD j (.Pass ⟨0, 0, 0, 0⟩)
  | _ => .Pass ⟨0, 0, 0, 0⟩
end AM

/-! AM21: rows so many times; lists of ranges; dicts that are written out. -/
namespace AM
open PySem PySem.Spec PyProof.Rows L2
theorem tuple_mulS (l : Addr) (items : Array Value) (n : Nat) (dd : Option Addr) (sl : Array (Option Value)) (x : Int) (u : Tok) (c0 : (decide (x < -(2 ^ 63)) || decide (x ≥ 2 ^ 63)) = false) (c1 : (items.isEmpty || x == 1) = true) :
    Meets (Builtin.«tuple.__mul__» ⟨[.ref l, .int x u], []⟩) (fun _ R s => s.heap.get? l = some { cls := .type "tuple", dict := dd, data := .seq items n, slots := sl } ∧
      R (.ok (.ret (Value.ref l))) s) :=
  .of_wp fun prog w A R s h => by
    obtain ⟨hp, g, d, tk, os⟩ := s
    obtain ⟨hl, h⟩ := h
    have f1 := AutoSeq1.idx_int
    wp_walk using wpAny_loadPart' hl
    repeat (first
      | (refine wpAny_ite_false (decide_eq_false (by rw [c0]; exact Bool.false_ne_true)) ?_; wp_walk using wpAny_loadPart' hl)
      | (refine wpAny_ite_true (decide_eq_true c1) ?_; wp_walk using wpAny_loadPart' hl))
    exact ⟨_, rfl, h⟩
theorem tuple_mul0 (l : Addr) (items : Array Value) (n : Nat) (dd : Option Addr) (sl : Array (Option Value)) (x : Int) (u : Tok) (c0 : (decide (x < -(2 ^ 63)) || decide (x ≥ 2 ^ 63)) = false) (c1 : (items.isEmpty || x == 1) = false) (c2 : (decide (x ≤ 0) || items.isEmpty) = true) :
    Meets (Builtin.«tuple.__mul__» ⟨[.ref l, .int x u], []⟩) (fun _ R s => s.heap.get? l = some { cls := .type "tuple", dict := dd, data := .seq items n, slots := sl } ∧
      R (.ok (.ret (Value.ref s.heap.objs.size))) { s with heap := s.heap.push { cls := Value.type "tuple", data := Data.seq #[] }, toks := s.toks }) :=
  .of_wp fun prog w A R s h => by
    obtain ⟨hp, g, d, tk, os⟩ := s
    obtain ⟨hl, h⟩ := h
    have f1 := AutoSeq1.idx_int
    wp_walk using wpAny_loadPart' hl
    repeat (first
      | (refine wpAny_ite_false (decide_eq_false (by rw [c0]; exact Bool.false_ne_true)) ?_; wp_walk using wpAny_loadPart' hl)
      | (refine wpAny_ite_false (decide_eq_false (by rw [c1]; exact Bool.false_ne_true)) ?_; wp_walk using wpAny_loadPart' hl)
      | (refine wpAny_ite_true (decide_eq_true c2) ?_; wp_walk using wpAny_loadPart' hl))
    exact ⟨_, rfl, h⟩
def rRepS (K : PySem.W.Frag) : R2 := fun x y H Q => ∃ l k xs, x = .ref l ∧ y = .int k ∧ SqT K H l xs ∧ (xs = [] ∨ k = 1) ∧ -(2 ^ 63) ≤ k ∧ k < 2 ^ 63 ∧ Q (.ref l) H
def rRep0 (K : PySem.W.Frag) : R2 := fun x y H Q => ∃ l k xs, x = .ref l ∧ y = .int k ∧ SqT K H l xs ∧ xs ≠ [] ∧ k ≤ 0 ∧ -(2 ^ 63) ≤ k ∧ ∀ p, H p = none → Q (.ref p) (upd H p (.tup []))
section
variable {X : Cx}
theorem op_repS : OpR X (binaryOp .Mult) (rRepS X.K) := by
  intro pins s σ H x y v u Q I rx ry h
  obtain ⟨l, k, xs, rfl, rfl, hT, hne, h1, h2, q⟩ := h
  cases rx
  obtain ⟨t, rfl⟩ := ry
  obtain ⟨its, r, ⟨⟨cls, dd, data, sl⟩, ho, hc, n, hd⟩, hs⟩ := I.tuple hT
  simp only at hc hd
  subst hc hd
  have hle : its.length = xs.length := r.length.symm
  have c0 : (decide (k < -(2 ^ 63)) || decide (k ≥ 2 ^ 63)) = false := by
    rw [decide_eq_false (by omega), decide_eq_false (by omega)] <;> rfl
  have c1 : (its.toArray.isEmpty || k == 1) = true := by
    rcases hne with e | e
    · rw [e] at hle
      rw [List.eq_nil_of_length_eq_zero hle]
      rfl
    · rw [e]
      simp
  refine wpAny_binaryOp_repeat_ref (T := "tuple") (U := "int") (by decide) ⟨_, ho, rfl⟩ (fun s' => typeIs_int s' k t) noFill_tuple_mul F.fills_int_mul F.slot_int_rmul repeat_tuple F.slot_int_index.lookup
    (call_meets F.slot_int_rmul (typeIs_int s k t) F.entry_int_rmul (F.args_int_rmul_2 _ _) (int_rmul_tuple k t l its.toArray n dd sl)
      ⟨ho, rfl, ⟨_, ho, rfl⟩, call_meets F.slot_tuple_mul ⟨_, ho, rfl⟩ F.entry_tuple_mul (F.args_tuple_mul_2 _ _) (tuple_mulS l its.toArray n dd sl k t c0 c1) ⟨ho, ?_⟩⟩)
  exact ⟨.ref l, H, I, rfl, q⟩
theorem op_rep0 : OpR X (binaryOp .Mult) (rRep0 X.K) := by
  intro pins s σ H x y v u Q I rx ry h
  obtain ⟨l, k, xs, rfl, rfl, hT, hne, h1, h2, q⟩ := h
  cases rx
  obtain ⟨t, rfl⟩ := ry
  obtain ⟨its, r, ⟨⟨cls, dd, data, sl⟩, ho, hc, n, hd⟩, hs⟩ := I.tuple hT
  simp only at hc hd
  subst hc hd
  have hle : its.length = xs.length := r.length.symm
  have hn : its ≠ [] := fun e => hne (by
    rw [e] at hle
    exact List.eq_nil_of_length_eq_zero hle.symm)
  have hi : its.toArray.isEmpty = false := by
    cases its with
    | nil => exact absurd rfl hn
    | cons a b => rfl
  have c0 : (decide (k < -(2 ^ 63)) || decide (k ≥ 2 ^ 63)) = false := by
    rw [decide_eq_false (by omega), decide_eq_false (by omega)] <;> rfl
  have c1 : (its.toArray.isEmpty || k == 1) = false := by
    rw [hi, Bool.false_or]
    exact beq_eq_false_iff_ne.mpr (by omega)
  have c2 : (decide (k ≤ 0) || its.toArray.isEmpty) = true := by
    rw [decide_eq_true h1]
    rfl
  refine wpAny_binaryOp_repeat_ref (T := "tuple") (U := "int") (by decide) ⟨_, ho, rfl⟩ (fun s' => typeIs_int s' k t) noFill_tuple_mul F.fills_int_mul F.slot_int_rmul repeat_tuple F.slot_int_index.lookup
    (call_meets F.slot_int_rmul (typeIs_int s k t) F.entry_int_rmul (F.args_int_rmul_2 _ _) (int_rmul_tuple k t l its.toArray n dd sl)
      ⟨ho, rfl, ⟨_, ho, rfl⟩, call_meets F.slot_tuple_mul ⟨_, ho, rfl⟩ F.entry_tuple_mul (F.args_tuple_mul_2 _ _) (tuple_mul0 l its.toArray n dd sl k t c0 c1 c2) ⟨ho, ?_⟩⟩)
  refine ⟨.ref s.heap.objs.size, _, I.laid (t' := s.toks) (o := .tup []) (fun b ob q => Heap.get?_push_of_some _ q) (Nat.le_refl _) ?_, rfl, q _ (I.hok.fresh (Nat.le_refl _))⟩
  exact ⟨Nat.zero_le _, [], .nil, IsTup.new _ _⟩
end
section
variable {K : PySem.W.Frag}
def vMulS : F2 := fun p q h => match p, q with
  | .tup xs, .int k => if (xs.isEmpty = true ∨ k = 1) ∧ -1000000 ≤ k ∧ k ≤ 1000000 then .ok (.tup xs) h else .bad
  | _, _ => .bad
def vMul0 : F2 := fun p q h => match p, q with
  | .tup xs, .int k => if xs.isEmpty = false ∧ k ≤ 0 ∧ -1000000 ≤ k then .ok (.tup []) h else .bad
  | _, _ => .bad
def vMulL (b : Bool) : F2 := fun p q h => match lstOf h p, q with
  | some xs, .int k => if -1000000 ≤ k ∧ k ≤ 1000000 ∧ small (xs.length * k.toNat) = true then mkL b (List.replicate k.toNat xs).flatten h else .bad
  | _, _ => .bad
theorem sn_mulS : Snd2 K (rRepS K) vMulS := fun {W s as h H p q v w Q} rh rp rq z => by
  unfold vMulS at z
  split at z
  · rename_i xs k
    split at z
    · rename_i l
      unfold Rep at rp
      have rp0 := rp
      obtain ⟨a, vs, rfl, ta, ra⟩ := rp
      cases rq
      refine ⟨a, k, vs, rfl, rfl, ta.sq, ?_, by omega, by omega, Post.done z (Ext.refl _ _) rh ?_⟩
      · rcases l.1 with e | e
        · have e : xs = [] := List.isEmpty_iff.mp e
          subst e
          exact .inl (reps_inv0 ra)
        · exact .inr e
      · unfold Rep
        exact ⟨a, vs, rfl, ta, ra⟩
    · exact z.elim
  · exact z.elim
theorem sn_mul0 : Snd2 K (rRep0 K) vMul0 := fun {W s as h H p q v w Q} rh rp rq z => by
  unfold vMul0 at z
  split at z
  · rename_i xs k
    split at z
    · rename_i l
      unfold Rep at rp
      obtain ⟨a, vs, rfl, ta, ra⟩ := rp
      cases rq
      refine ⟨a, k, vs, rfl, rfl, ta.sq, ?_, l.2.1, by omega, fun p e => post_tup rh reps_nil z p e⟩
      intro e
      have := ra.len
      rw [e] at this
      have e2 := List.eq_nil_of_length_eq_zero this
      rw [e2] at l
      exact Bool.noConfusion l.1
    · exact z.elim
  · exact z.elim
theorem sn_mulL {b : Bool} : Snd2 K rRep (vMulL b) := fun {W s as h H p q v w Q} rh rp rq z => by
  unfold vMulL at z
  split at z
  · rename_i xs k z1
    split at z
    · rename_i l
      obtain ⟨a, vs, rfl, h1, h2⟩ := lstOf_ok rh rp z1
      cases rq
      exact ⟨a, k, vs, rfl, rfl, h1, by omega, by omega, by rw [← h2.len]; exact small_ok l.2.2, fun p e => post_mk rh (h2.rep _) z p e⟩
    · exact z.elim
  · exact z.elim
def vMulA (b : Bool) : F2 := orF2 (orF2 (orF2 vMul vMulS) vMul0) (vMulL b)
def rMulB (K : PySem.W.Frag) : R2 := fun x y H Q => ((rMulA K x y H Q ∨ rRepS K x y H Q) ∨ rRep0 K x y H Q) ∨ rRep x y H Q
theorem or_mulB {X : Cx} : OpR X (binaryOp .Mult) (rMulB X.K) := ((or_mul.or op_repS).or op_rep0).or op_rep
theorem sn_mulB {b : Bool} : Snd2 K (rMulB K) (vMulA b) := Snd2.or (Snd2.or (Snd2.or sn_mul sn_mulS) sn_mul0) sn_mulL
end
/-! ### list(range(..)) -/
section
variable {X : Cx} {W : WX}
def eLR (b : Bool) (m : EM) : EM := fun t h => (m t h).bind fun p h1 => match p with
  | .int j => if -1000000 ≤ j ∧ j ≤ 1000000 then mkL b (rgS 0 j).xs h1 else .bad
  | _ => .bad
theorem reps_rg {K : PySem.W.Frag} {as : List Addr} {H : Hp} (lo hi : Int) : Reps K as H (rgS lo hi).xs (rgV lo hi) := by
  unfold rgS rgV
  generalize List.range (hi - lo).toNat = l
  induction l with
  | nil => exact reps_nil
  | cons a l ih =>
    refine reps_cons ?_ ih
    unfold Rep
    rfl
theorem w_listR (b : Bool) {a : Expr} {m : EM} {p1 p2 p3 p4 : Pos} (hc : X.calm = true) (hm : X.mg "list" = none) (hm2 : X.mg "range" = none) (ha : PEm X W a m) (hg : Gl X "list" := by rfl) (hg2 : Gl X "range" := by rfl)
    (na : starEach [a] X.env = (false, eval a X.env) :: starEach [] X.env := by rfl) (nb : starEach [.Call (.Name "range" p2) [a] [] p3] X.env = (false, eval (.Call (.Name "range" p2) [a] [] p3) X.env) :: starEach [] X.env := by rfl) :
    PEm X W (.Call (.Name "list" p1) [.Call (.Name "range" p2) [a] [] p3] [] p4) (eLR b m) := by
  refine PE_imp (pe_listRg hc hg hm (prg_1 hg2 hm2 ha na) nb) fun s H Q q => ?_
  obtain ⟨as, h, t, rh, rs, q⟩ := q
  refine ⟨as, h, t, rh, rs, (Post.bind (R := Rep X.K) q).mono fun v H1 z => ?_⟩
  obtain ⟨as1, h1, p, x1, r1, e1, q1⟩ := z
  split at q1
  · rename_i j
    split at q1
    · rename_i l
      cases e1
      exact ⟨j, rfl, ⟨by omega, by omega, by omega, by omega, by omega⟩, fun c e => post_mk r1 (reps_rg 0 j) q1 c e⟩
    · exact q1.elim
  · exact q1.elim
/-! ### dicts that are written out -/
def lD : List (Str × EM) → LM
  | [] => lN
  | (_, m) :: r => lC m (lD r)
def trsD (K : PySem.W.Frag) (W : WX) (l : List (Str × EM)) : List (TE × TE) := l.map fun z => (TEm K W (eC (.str z.1)), TEm K W z.2)
def RepD (K : PySem.W.Frag) (l : List (Str × EM)) (as : List Addr) (H : Hp) (ps : List P) (qs : List (V × V)) : Prop := qs.map (·.1) = l.map (fun z => V.str z.1) ∧ Reps K as H ps (qs.map (·.2))
theorem pairs_post {K : PySem.W.Frag} : ∀ {l : List (Str × EM)} {s : L2.St} {H : Hp} {Q : List (V × V) → Hp → Prop}, TG_ (RepD K l) K W (lD l) s H Q → tPairs (trsD K W l) s H Q
  | [], s, H, Q, q => by
    obtain ⟨as, h, t, rh, rs, q⟩ := q
    exact q as H [] (Ext.refl _ _) rh ⟨rfl, reps_nil⟩
  | (k, m) :: l, s, H, Q, q => by
    obtain ⟨as, h, t, rh, rs, q⟩ := q
    show TEm K W (eC (.str k)) s H fun x H1 => TEm K W m s H1 fun y H2 => tPairs (trsD K W l) s H2 fun ps H3 => Q ((x, y) :: ps) H3
    refine ⟨as, h, t, rh, rs, fun as1 H1 v x1 r1 e1 => ?_⟩
    have e1 : v = .str k := e1
    subst e1
    have q := q.ext x1
    refine ⟨as1, h, t, r1, rs.mono x1, (Post.bind (R := Rep K) q).mono fun y H2 z => ?_⟩
    obtain ⟨as2, h2, p, x2, r2, e2, q2⟩ := z
    refine pairs_post ⟨as2, h2, t, r2, (rs.mono x1).mono x2, (Post.bind (R := RepD K l) q2).mono fun qs H3 z => ?_⟩
    obtain ⟨as3, h3, ps, x3, r3, e3, q3⟩ := z
    refine Post.done q3 (Ext.refl _ _) r3 ⟨?_, ?_⟩
    · rw [List.map_cons, List.map_cons, e3.1]
    · exact reps_cons (e2.mono x3) e3.2
theorem wd_nil {pos : Pos} : PPs X pos [] [] (trsD X.K W []) := pps_nil
theorem wd_cons {pos p1 : Pos} {k : Str} {kx} {v : Expr} {ks : List (Option Expr)} {vs : List Expr} {m : EM} {l : List (Str × EM)} (hk : PEm X W (.Constant (.str k) kx p1) (eC (.str k))) (hv : PEm X W v m) (hr : PPs X pos ks vs (trsD X.K W l)) :
    PPs X pos (some (.Constant (.str k) kx p1) :: ks) (v :: vs) (trsD X.K W ((k, m) :: l)) := pps_cons hk hv hr
def keysD (l : List (Str × EM)) : List Key := l.map fun z => .inr z.1
def eDct (l : List (Str × EM)) : EM := fun t h => (lD l t (h ++ [.dct []])).bind fun xs h2 => match h2[h.length]? with
  | some (.dct []) => if xs.length = l.length then .ok (.obj h.length) (h2.set h.length (.dct ((keysD l).zip xs))) else .bad
  | _ => .bad
theorem putK_new {kvs : List (Key × V)} {k : Key} {p : V} (g : k ∉ kvs.map (·.1)) : putK kvs k p = kvs ++ [(k, p)] := by
  unfold putK
  rw [if_neg]
  intro z
  obtain ⟨a, m, e⟩ := List.any_eq_true.mp z
  exact g (List.mem_map.mpr ⟨a, m, of_decide_eq_true e⟩)
theorem merge_new : ∀ {more kvs : List (Key × V)}, ((kvs ++ more).map (·.1)).Nodup → mergeK kvs more = kvs ++ more
  | [], kvs, _ => by rw [List.append_nil]; rfl
  | p :: r, kvs, n => by
    have g : p.1 ∉ kvs.map (·.1) := fun m => by
      rw [List.map_append, List.nodup_append] at n
      exact n.2.2 _ m _ (List.mem_cons_self ..) rfl
    show mergeK (putK kvs p.1 p.2) r = _
    rw [putK_new g, merge_new (by rw [List.append_assoc]; exact n), List.append_assoc]
    rfl
theorem w_disp {pos : Pos} {keys : List (Option Expr)} {values : List Expr} {l : List (Str × EM)} (h : PPs X pos keys values (trsD X.K W l)) (n : (keysD l).Nodup) (ll : l.length ≤ 15) (hall : keys.all (·.isSome) = true := by rfl) (hl : keys.length = values.length := by rfl) (h0 : keys ≠ [] := by exact fun e => by cases e)
    (h15 : keys.length ≤ 15 := by decide) : PEm X W (.Dict keys values pos) (eDct l) := by
  refine PE_imp (pe_disp h hall hl h0 h15) fun s H Q q => ?_
  obtain ⟨as, h, t, rh, rs, q⟩ := q
  intro p e
  have x := Ext.push (o := .dK []) rh e
  have r0 := rh.push (o := .dK []) (u := .dct []) e ⟨[], upd_same, rfl, reps_nil⟩
  refine pairs_post ⟨as ++ [p], h ++ [.dct []], t, r0, rs.mono x, (Post.bind (R := RepD X.K l) (q.ext x)).mono fun qs H2 z => ?_⟩
  obtain ⟨as2, h2, ps, x2, r2, e2, q2⟩ := z
  split at q2
  · rename_i eh
    split at q2
    · rename_i ln
      have ep : as2[h.length]? = some p := x2.get (by rw [← rh.len]; simp)
      obtain ⟨ws, w1, w2, w3⟩ := r2.obj eh ep
      have w0 : ws = [] := List.map_eq_nil_iff.mp w2
      subst w0
      have lq : (qs.map (·.2)).length = l.length := by rw [← e2.2.len, ln]
      have kl : (keysD l).length = (qs.map (·.2)).length := by
        unfold keysD
        rw [List.length_map, lq]
      have kf : ((keysD l).zip (qs.map (·.2))).map (·.1) = keysD l := List.map_fst_zip (by omega)
      have ks : ((keysD l).zip (qs.map (·.2))).map (·.2) = qs.map (·.2) := List.map_snd_zip (by omega)
      refine ⟨w1, (keysD l).zip (qs.map (·.2)), ?_, ?_, ?_⟩
      · have e3 : qs.map (·.1) = (keysD l).map kV := by
          rw [e2.1]
          unfold keysD
          rw [List.map_map]
          rfl
        have z : ∀ (ks : List Key) (qs : List (V × V)), qs.map (·.1) = ks.map kV → qs = (ks.zip (qs.map (·.2))).map fun kv => (kV kv.1, kv.2) := by
          intro ks
          induction ks with
          | nil =>
            intro qs e
            have : qs = [] := List.map_eq_nil_iff.mp e
            subst this
            rfl
          | cons k ks ih =>
            intro qs e
            cases qs with
            | nil => cases e
            | cons q qs =>
              rw [List.map_cons, List.map_cons] at e
              obtain ⟨e1, e2⟩ := List.cons.inj e
              rw [List.map_cons, List.zip_cons_cons, List.map_cons, ← ih qs e2, ← e1]
        exact z _ _ e3
      · rw [List.length_zip]
        unfold keysD
        rw [List.length_map]
        omega
      · have m : mergeK [] ((keysD l).zip (qs.map (·.2))) = (keysD l).zip (qs.map (·.2)) := merge_new (by
          rw [List.nil_append, kf]
          exact n)
        rw [m]
        have xp : Ext as2 H2 as2 (upd H2 p (.dK ((keysD l).zip (qs.map (·.2))))) := Ext.put r2 ep
        refine Post.done q2 xp (r2.put ep ⟨_, upd_same, ?_, ?_⟩) ?_
        · rw [kf, List.map_fst_zip]
          unfold keysD
          rw [List.length_map]
          omega
        · rw [ks, List.map_snd_zip]
          · exact e2.2.mono xp
          · unfold keysD
            rw [List.length_map]
            omega
        · unfold Rep
          exact ⟨p, rfl, ep⟩
    · exact q2.elim
  · exact q2.elim
end
end AM

/-! AM22: the head, seen level by level. -/
namespace AM
open PySem PySem.Spec PyProof.Rows L2
/-- what is named by these, but for the module's names -/
def nextE (g : Addr → Option Obj) (as : List Addr) : List Addr := (as.flatMap fun a => match g a with
  | some o => He.refsD o
  | none => []).filter fun a => !(Nat.beq a mainGlobals || Nat.beq a builtinsNs)
def asE (g : Addr → Option Obj) : Nat → List Addr → List Addr
  | 0, as => as
  | n + 1, as => as ++ asE g n (nextE g as)
def obsEG (n : Nat) (cs : List Ck) (fn : List DefA) (g : Addr → Option Obj) : He.AlD := obsA cs fn (He.frG g (asE g n [mainGlobals]))
def hookE (n : Nat) (cs : List Ck) (fn : List DefA) : PySem.W.Hook where
  α := He.AlD
  obs := fun s => obsEG n cs fn s.heap.get?
  val := fun _ => valA fn
  says := fun _ h => ∃ K : PySem.W.Frag, K.In h ∧ SaysA cs fn K
  of := fun _ _ e => ⟨_, He.frG_in, e⟩
  keeps := fun _ _ _ ⟨K, hK, c⟩ k => ⟨K, PySem.W.Frag.In.keeps hK k, c⟩
theorem obsEG_eq {n : Nat} {cs : List Ck} {fn : List DefA} {g : Addr → Option Obj} {s : Shared} (h : ∀ a, g a = s.heap.get? a) : obsEG n cs fn g = (hookE n cs fn).obs s := by
  have e : g = s.heap.get? := funext h
  rw [e] <;> rfl
end AM

/-! The meanings, printed by gen.py. -/
namespace K13
open PySem PySem.Spec PyProof.Rows L2 AM
noncomputable section
def N__law_take : List Str := ["pot", "upto", "digit", "prime", "blend"]
def b__law_take : SM :=
    (sQ (sIf (tCp gtP (eB itemP (eV 0) (eC (.int 0))) (eC (.int 0))) (sQ (sA (eB vMod (eCB fInt (lC (eB itemP (eV 0) (eC (.int 0))) lN)) (eV 1)) (gN 2))
    (sQ (sA (eB vDiv (eB itemP (eV 0) (eC (.int 0))) (eV 1)) (gS (eV 0) (eC (.int 0))))
    (sR (eV 2)))) sNx)
    (sQ (sA (eB (vAdd false) (eB itemP (eV 0) (eC (.int 2))) (eC (.int 1))) (gS (eV 0) (eC (.int 2))))
    (sQ (sA (eB itemP (eLst false (lC (eC (.int 2147483647)) (lC (eC (.int 2147483629)) (lC (eC (.int 2147483587)) (lC (eC (.int 2147483579)) (lC (eC (.int 2147483563)) lN)))))) (eB vMod (eCB fInt (lC (eB itemP (eV 0) (eC (.int 2))) lN)) (eC (.int 5)))) (gN 3))
    (sQ (sA (eB vMod (eCB fInt (lC (eB vPow (eCB fInt (lC (eB (vAdd false) (eB (vAdd false) (eB itemP (eV 0) (eC (.int 1))) (eB vMul (eB vMul (eC (.int 104274)) (eB itemP (eV 0) (eC (.int 2)))) (eB itemP (eV 0) (eC (.int 2))))) (eC (.int 2024))) lN)) (eC (.int 3))) lN)) (eV 3)) (gN 4))
    (sQ (sA (eB vMod (eCB fInt (lC (eB vMul (eV 4) (eB (vAdd false) (eB vMod (eCB fInt (lC (eV 4) lN)) (eC (.int 12352))) (eB vMul (eC (.int 1044)) (eB itemP (eV 0) (eC (.int 2)))))) lN)) (eC (.int 2305843009213693907))) (gN 4))
    (sR (eB vMod (eCB fInt (lC (eB vDiv (eV 4) (eC (.int 167))) lN)) (eV 1))))))))
def m__law_take : Fn := mkFn N__law_take.length b__law_take
@[simp] theorem nl__law_take : N__law_take.length = 5 := rfl
def N__law_some : List Str := ["pot", "pool", "many", "rests", "found", "lap"]
def b__law_some : SM :=
    (sQ (sPar 3 4 (lC (eCB (fList true) (lC (eV 1) lN)) (lC (eLst true lN) lN)))
    (sQ (sFor (iRg1 (lC (eV 2) lN)) (gN 5) (sE (eBM "list" mAppend (eV 4) (lC (eBM "list" mPop (eV 3) (lC (eCall 2 m__law_take (lC (eV 0) (lC (eCB fLen (lC (eV 3) lN)) lN))) lN)) lN))))
    (sR (eV 4))))
def m__law_some : Fn := mkFn N__law_some.length b__law_some
@[simp] theorem nl__law_some : N__law_some.length = 6 := rfl
def N_lines_of : List Str := ["text", "line"]
def b_lines_of : SM :=
    (sR (eLc (iSeq (eM1 (fSplit false) (eV 0) (eC (.str "\n")))) [1] (gN 1) tY (eM1 (fSplit false) (eV 1) (eC (.str " ")))))
def m_lines_of : Fn := mkFn N_lines_of.length b_lines_of
@[simp] theorem nl_lines_of : N_lines_of.length = 2 := rfl
def N_whole_in : List Str := ["word", "figures", "sign"]
def b_whole_in : SM :=
    (sQ (sA (eIf (tCp eqP (eSlice false (eV 0) oN (oS (eC (.int 1)))) (eC (.str "-"))) (eSlice false (eV 0) (oS (eC (.int 1))) oN) (eV 0)) (gN 1))
    (sQ (sIf (AM.tOr (tNt (tCh leP leP (eC (.int 1)) (eCB fLen (lC (eV 1) lN)) (eC (.int 4000)))) (tNt (tT (eCB fAll (lC (eLc (iSeq (eV 1)) [2] (gN 2) tY (eCmp inP (eV 2) (eC (.str "0123456789")))) lN))))) (sR (eC .non)) sNx)
    (sR (eIf (tAn (tCp eqP (eB itemP (eV 1) (eC (.int 0))) (eC (.str "0"))) (tCp neP (eV 0) (eC (.str "0")))) (eC .non) (eCB fInt (lC (eV 0) lN))))))
def m_whole_in : Fn := mkFn N_whole_in.length b_whole_in
@[simp] theorem nl_whole_in : N_whole_in.length = 3 := rfl
def N_is_whole : List Str := ["value"]
def b_is_whole : SM :=
    (sR (eAn (eIsi "int" (eV 0)) (eNt (eIsi "bool" (eV 0)))))
def m_is_whole : Fn := mkFn N_is_whole.length b_is_whole
@[simp] theorem nl_is_whole : N_is_whole.length = 1 := rfl
def N_is_integer : List Str := ["value", "low", "high"]
def b_is_integer : SM :=
    (sR (eAn (eCall 1 m_is_whole (lC (eV 0) lN)) (eCh leP leP (eV 1) (eV 0) (eV 2))))
def m_is_integer : Fn := mkFn N_is_integer.length b_is_integer
@[simp] theorem nl_is_integer : N_is_integer.length = 3 := rfl
def N_coords_in : List Str := ["words", "many"]
def b_coords_in : SM :=
    (sQ (sA (eIf (tAn (tCp eqP (eCB fLen (lC (eV 0) lN)) (eC (.int 2))) (tCp eqP (eB itemP (eV 0) (eC (.int 0))) (eC (.str "net")))) (eCall 1 m_whole_in (lC (eB itemP (eV 0) (eC (.int 1))) lN)) (eC .non)) (gN 1))
    (sR (eIf (tT (eCall 3 m_is_integer (lC (eV 1) (lC (eC (.int 1)) (lC (eC (.int 3)) lN))))) (eV 1) (eC .non))))
def m_coords_in : Fn := mkFn N_coords_in.length b_coords_in
@[simp] theorem nl_coords_in : N_coords_in.length = 2 := rfl
def N_Drafts_u_init_u : List Str := ["self", "coords"]
def b_Drafts_u_init_u : SM :=
    (sQ (sA (eV 1) (gSl "Drafts" 0 (eV 0)))
    (sA (eTup (lC eD0 (lC eD0 (lC (eLst true lN) lN)))) (gU 3 (gsC (gSl "Drafts" 2 (eV 0)) (gsC (gSl "Drafts" 3 (eV 0)) (gsC (gSl "Drafts" 1 (eV 0)) gsN))))))
def m_Drafts_u_init_u : Fn := mkFn N_Drafts_u_init_u.length b_Drafts_u_init_u
@[simp] theorem nl_Drafts_u_init_u : N_Drafts_u_init_u.length = 2 := rfl
def N_common : List Str := ["one", "other"]
def b_common : SM :=
    (sQ (sPar 0 1 (lC (eCB fAbs (lC (eV 0) lN)) (lC (eCB fAbs (lC (eV 1) lN)) lN)))
    (sQ (sWhile (tCp gtP (eV 1) (eC (.int 0))) (sPar 0 1 (lC (eV 1) (lC (eB vMod (eV 0) (eV 1)) lN))))
    (sR (eV 0))))
def m_common : Fn := mkFn N_common.length b_common
@[simp] theorem nl_common : N_common.length = 2 := rfl
def N_is_ratio : List Str := ["value", "one"]
def b_is_ratio : SM :=
    (sQ (sIf (AM.tOr (tNt (tT (eIsi "tuple" (eV 0)))) (AM.tOr (tCp neP (eCB fLen (lC (eV 0) lN)) (eC (.int 2))) (tNt (tT (eCB fAll (lC (eLc (iSeq (eV 0)) [1] (gN 1) tY (eCall 1 m_is_whole (lC (eV 1) lN))) lN)))))) (sR (eC (.bl false))) sNx)
    (sR (eAn (eCmp geP (eB itemP (eV 0) (eC (.int 1))) (eC (.int 1))) (eCmp eqP (eCall 2 m_common (lC (eB itemP (eV 0) (eC (.int 0))) (lC (eB itemP (eV 0) (eC (.int 1))) lN))) (eC (.int 1))))))
def m_is_ratio : Fn := mkFn N_is_ratio.length b_is_ratio
@[simp] theorem nl_is_ratio : N_is_ratio.length = 2 := rfl
def N_ratio_in : List Str := ["word", "numbers", "found", "one"]
def b_ratio_in : SM :=
    (sQ (sA (eLc (iSeq (eM1 (fSplit false) (eV 0) (eC (.str "/")))) [3] (gN 3) tY (eCall 1 m_whole_in (lC (eV 3) lN))) (gN 1))
    (sQ (sIf (AM.tOr (tCp inP (eC .non) (eV 1)) (tCp gtP (eCB fLen (lC (eV 1) lN)) (eC (.int 2)))) (sR (eC .non)) sNx)
    (sQ (sIf (tCp eqP (eCB fLen (lC (eV 1) lN)) (eC (.int 1))) (sR (eTup (lC (eB itemP (eV 1) (eC (.int 0))) (lC (eC (.int 1)) lN)))) sNx)
    (sQ (sA (eTup (lC (eB itemP (eV 1) (eC (.int 0))) (lC (eB itemP (eV 1) (eC (.int 1))) lN))) (gN 2))
    (sR (eIf (tAn (tCp gtP (eB itemP (eV 2) (eC (.int 1))) (eC (.int 1))) (tT (eCall 1 m_is_ratio (lC (eV 2) lN)))) (eV 2) (eC .non)))))))
def m_ratio_in : Fn := mkFn N_ratio_in.length b_ratio_in
@[simp] theorem nl_ratio_in : N_ratio_in.length = 4 := rfl
def N_is_number : List Str := ["value"]
def b_is_number : SM :=
    (sR (eAn (eCall 1 m_is_ratio (lC (eV 0) lN)) (eAn (eCmp leP (eCB fAbs (lC (eB itemP (eV 0) (eC (.int 0))) lN)) (eC (.int 1000))) (eCmp leP (eB itemP (eV 0) (eC (.int 1))) (eC (.int 60))))))
def m_is_number : Fn := mkFn N_is_number.length b_is_number
@[simp] theorem nl_is_number : N_is_number.length = 1 := rfl
def N_numbers_in : List Str := ["words", "many", "numbers", "word", "one"]
def b_numbers_in : SM :=
    (sQ (sA (eLc (iSeq (eV 0)) [3] (gN 3) tY (eCall 1 m_ratio_in (lC (eV 3) lN))) (gN 2))
    (sR (eIf (tAn (tCp eqP (eCB fLen (lC (eV 2) lN)) (eV 1)) (tT (eCB fAll (lC (eLc (iSeq (eV 2)) [4] (gN 4) tY (eCall 1 m_is_number (lC (eV 4) lN))) lN)))) (eCB fTup (lC (eV 2) lN)) (eC .non))))
def m_numbers_in : Fn := mkFn N_numbers_in.length b_numbers_in
@[simp] theorem nl_numbers_in : N_numbers_in.length = 5 := rfl
def N_is_name : List Str := ["value", "sign"]
def b_is_name : SM :=
    (sR (eAn (eIsi "str" (eV 0)) (eAn (eCh leP leP (eC (.int 1)) (eCB fLen (lC (eV 0) lN)) (eC (.int 6))) (eCB fAll (lC (eLc (iSeq (eV 0)) [1] (gN 1) tY (eCmp inP (eV 1) (eC (.str "abcdefghijklmnopqrstuvwxyz")))) lN)))))
def m_is_name : Fn := mkFn N_is_name.length b_is_name
@[simp] theorem nl_is_name : N_is_name.length = 2 := rfl
def N_Drafts_is_new : List Str := ["self", "name"]
def b_Drafts_is_new : SM :=
    (sR (eAn (eCall 1 m_is_name (lC (eV 1) lN)) (eAn (eCmp notinP (eV 1) (eSlot "Drafts" 2 (eV 0))) (eCmp notinP (eV 1) (eSlot "Drafts" 3 (eV 0))))))
def m_Drafts_is_new : Fn := mkFn N_Drafts_is_new.length b_Drafts_is_new
@[simp] theorem nl_Drafts_is_new : N_Drafts_is_new.length = 2 := rfl
def N_Drafts_put_peg : List Str := ["self", "words", "numbers"]
def b_Drafts_put_peg : SM :=
    (sQ (sA (eCall 2 m_numbers_in (lC (eSlice false (eV 1) (oS (eC (.int 2))) oN) (lC (eSlot "Drafts" 0 (eV 0)) lN))) (gN 2))
    (sQ (sIf (AM.tOr (tCp isP (eV 2) (eC .non)) (AM.tOr (tNt (tT (eMeth "Drafts" 2 m_Drafts_is_new (eV 0) (lC (eB itemP (eV 1) (eC (.int 1))) lN)))) (AM.tOr (tCp (eqD0 true) (eSlot "Drafts" 3 (eV 0)) eD0) (tCp neP (eSlot "Drafts" 1 (eV 0)) (eLst false lN))))) (sR (eC (.bl false))) sNx)
    (sQ (sA (eV 2) (gS (eSlot "Drafts" 2 (eV 0)) (eB itemP (eV 1) (eC (.int 1)))))
    (sR (eCmp leP (eCB fLen (lC (eSlot "Drafts" 2 (eV 0)) lN)) (eC (.int 16)))))))
def m_Drafts_put_peg : Fn := mkFn N_Drafts_put_peg.length b_Drafts_put_peg
@[simp] theorem nl_Drafts_put_peg : N_Drafts_put_peg.length = 3 := rfl
def N_Drafts_put_ring : List Str := ["self", "words", "numbers"]
def b_Drafts_put_ring : SM :=
    (sQ (sA (eCall 2 m_numbers_in (lC (eSlice false (eV 1) (oS (eC (.int 2))) oN) (lC (eB vMul (eC (.int 2)) (eSlot "Drafts" 0 (eV 0))) lN))) (gN 2))
    (sQ (sIf (AM.tOr (tCp isP (eV 2) (eC .non)) (AM.tOr (tNt (tT (eMeth "Drafts" 2 m_Drafts_is_new (eV 0) (lC (eB itemP (eV 1) (eC (.int 1))) lN)))) (AM.tOr (tCp (eqD0 false) (eSlot "Drafts" 2 (eV 0)) eD0) (tCp neP (eSlot "Drafts" 1 (eV 0)) (eLst false lN))))) (sR (eC (.bl false))) sNx)
    (sQ (sA (eTup (lC (eSlice false (eV 2) oN (oS (eSlot "Drafts" 0 (eV 0)))) (lC (eSlice false (eV 2) (oS (eSlot "Drafts" 0 (eV 0))) oN) lN))) (gS (eSlot "Drafts" 3 (eV 0)) (eB itemP (eV 1) (eC (.int 1)))))
    (sR (eCmp leP (eCB fLen (lC (eSlot "Drafts" 3 (eV 0)) lN)) (eC (.int 8)))))))
def m_Drafts_put_ring : Fn := mkFn N_Drafts_put_ring.length b_Drafts_put_ring
@[simp] theorem nl_Drafts_put_ring : N_Drafts_put_ring.length = 3 := rfl
def N_Drafts_place : List Str := ["self", "name"]
def b_Drafts_place : SM :=
    (sR (eIf (tCp inP (eV 1) (eSlot "Drafts" 2 (eV 0))) (eB itemP (eSlot "Drafts" 2 (eV 0)) (eV 1)) (eB itemP (eB itemP (eSlot "Drafts" 3 (eV 0)) (eV 1)) (eC (.int 0)))))
def m_Drafts_place : Fn := mkFn N_Drafts_place.length b_Drafts_place
@[simp] theorem nl_Drafts_place : N_Drafts_place.length = 2 := rfl
def N_Drafts_put_cord : List Str := ["self", "words", "ends", "end"]
def b_Drafts_put_cord : SM :=
    (sQ (sA (eCB fTup (lC (eSlice false (eV 1) (oS (eC (.int 1))) oN) lN)) (gN 2))
    (sQ (sIf (AM.tOr (tCp neP (eCB fLen (lC (eV 2) lN)) (eC (.int 2))) (tNt (tT (eCB fAll (lC (eLc (iSeq (eV 2)) [3] (gN 3) tY (eOr (eCmp inP (eV 3) (eSlot "Drafts" 2 (eV 0))) (eCmp inP (eV 3) (eSlot "Drafts" 3 (eV 0))))) lN))))) (sR (eC (.bl false))) sNx)
    (sQ (sIf (AM.tOr (tCp eqP (eMeth "Drafts" 2 m_Drafts_place (eV 0) (lC (eB itemP (eV 2) (eC (.int 0))) lN)) (eMeth "Drafts" 2 m_Drafts_place (eV 0) (lC (eB itemP (eV 2) (eC (.int 1))) lN))) (tNt (tT (eCB fAny (lC (eLc (iSeq (eV 2)) [3] (gN 3) tY (eCmp inP (eV 3) (eSlot "Drafts" 3 (eV 0)))) lN))))) (sR (eC (.bl false))) sNx)
    (sQ (sIf (AM.tOr (tCp inP (eV 2) (eSlot "Drafts" 1 (eV 0))) (tCp inP (eU revP (eV 2)) (eSlot "Drafts" 1 (eV 0)))) (sR (eC (.bl false))) sNx)
    (sQ (sE (eBM "list" mAppend (eSlot "Drafts" 1 (eV 0)) (lC (eV 2) lN)))
    (sR (eCmp leP (eCB fLen (lC (eSlot "Drafts" 1 (eV 0)) lN)) (eC (.int 20)))))))))
def m_Drafts_put_cord : Fn := mkFn N_Drafts_put_cord.length b_Drafts_put_cord
@[simp] theorem nl_Drafts_put_cord : N_Drafts_put_cord.length = 4 := rfl
def N_Drafts_put : List Str := ["self", "words"]
def b_Drafts_put : SM :=
    (sQ (sIf (tCp eqP (eB itemP (eV 1) (eC (.int 0))) (eC (.str "peg"))) (sR (eAn (eCmp gtP (eCB fLen (lC (eV 1) lN)) (eC (.int 1))) (eMeth "Drafts" 2 m_Drafts_put_peg (eV 0) (lC (eV 1) lN)))) sNx)
    (sQ (sIf (tCp eqP (eB itemP (eV 1) (eC (.int 0))) (eC (.str "ring"))) (sR (eAn (eCmp gtP (eCB fLen (lC (eV 1) lN)) (eC (.int 1))) (eMeth "Drafts" 2 m_Drafts_put_ring (eV 0) (lC (eV 1) lN)))) sNx)
    (sR (eAn (eCmp eqP (eB itemP (eV 1) (eC (.int 0))) (eC (.str "cord"))) (eMeth "Drafts" 2 m_Drafts_put_cord (eV 0) (lC (eV 1) lN))))))
def m_Drafts_put : Fn := mkFn N_Drafts_put.length b_Drafts_put
@[simp] theorem nl_Drafts_put : N_Drafts_put.length = 2 := rfl
def N_drafts_of : List Str := ["text", "rows", "coords", "found", "at", "words"]
def b_drafts_of : SM :=
    (sQ (sA (eCall 1 m_lines_of (lC (eV 0) lN)) (gN 1))
    (sQ (sA (eCall 1 m_coords_in (lC (eB itemP (eV 1) (eC (.int 0))) lN)) (gN 2))
    (sQ (sIf (tCp isP (eV 2) (eC .non)) sBad sNx)
    (sQ (sA (eNew "Drafts" 2 m_Drafts_u_init_u (lC (eV 2) lN)) (gN 3))
    (sQ (sFor (iEn (lC (eSlice false (eV 1) (oS (eC (.int 1))) oN) lN)) (gT 2 (gsC (gN 4) (gsC (gN 5) gsN))) (sIf (tNt (tT (eMeth "Drafts" 2 m_Drafts_put (eV 3) (lC (eV 5) lN)))) sBad sNx))
    (sQ (sIf (tCp (eqD0 false) (eSlot "Drafts" 2 (eV 3)) eD0) sBad sNx)
    (sR (eV 3))))))))
def m_drafts_of : Fn := mkFn N_drafts_of.length b_drafts_of
@[simp] theorem nl_drafts_of : N_drafts_of.length = 6 := rfl
def N_Net_u_init_u : List Str := ["self", "text"]
def b_Net_u_init_u : SM :=
    (sQ (sIf (tNt (tT (eIsi "str" (eV 1)))) sBad sNx)
    (sQ (sA (eTup (lC (eCall 1 m_drafts_of (lC (eV 1) lN)) (lC (eV 1) lN))) (gU 2 (gsC (gSl "Net" 1 (eV 0)) (gsC (gSl "Net" 3 (eV 0)) gsN))))
    (sA (eTup (lC (eCB fTup (lC (eSlot "Drafts" 1 (eSlot "Net" 1 (eV 0))) lN)) (lC eD0 lN))) (gU 2 (gsC (gSl "Net" 0 (eV 0)) (gsC (gSl "Net" 2 (eV 0)) gsN))))))
def m_Net_u_init_u : Fn := mkFn N_Net_u_init_u.length b_Net_u_init_u
@[simp] theorem nl_Net_u_init_u : N_Net_u_init_u.length = 2 := rfl
def N__law_text : List Str := ["names", "p", "q", "r", "s", "lines"]
def b__law_text : SM :=
    (sQ (sA (eV 0) (gU 4 (gsC (gN 1) (gsC (gN 2) (gsC (gN 3) (gsC (gN 4) gsN))))))
    (sQ (sA (eLst true (lC (eC (.str "net 2")) (lC (eB (vAdd false) (eB (vAdd false) (eC (.str "peg ")) (eV 1)) (eC (.str " 0 0"))) (lC (eB (vAdd false) (eB (vAdd false) (eC (.str "peg ")) (eV 2)) (eC (.str " 6 0"))) (lC (eB (vAdd false) (eB (vAdd false) (eC (.str "ring ")) (eV 3)) (eC (.str " 3 0 0 -2"))) (lC (eB (vAdd false) (eB (vAdd false) (eC (.str "ring ")) (eV 4)) (eC (.str " 3 -4 1/2 0"))) lN)))))) (gN 5))
    (sQ (sE (eBM "list" mExtend (eV 5) (lC (eLst false (lC (eB (vAdd false) (eB (vAdd false) (eB (vAdd false) (eC (.str "cord ")) (eV 1)) (eC (.str " "))) (eV 3)) (lC (eB (vAdd false) (eB (vAdd false) (eB (vAdd false) (eC (.str "cord ")) (eV 3)) (eC (.str " "))) (eV 2)) (lC (eB (vAdd false) (eB (vAdd false) (eB (vAdd false) (eC (.str "cord ")) (eV 4)) (eC (.str " "))) (eV 3)) lN)))) lN)))
    (sR (eM1 fJoin (eC (.str "\n")) (eV 5))))))
def m__law_text : Fn := mkFn N__law_text.length b__law_text
@[simp] theorem nl__law_text : N__law_text.length = 6 := rfl
def N_Net_u_len_u : List Str := ["self"]
def b_Net_u_len_u : SM :=
    (sR (eCB fLen (lC (eSlot "Drafts" 3 (eSlot "Net" 1 (eV 0))) lN)))
def m_Net_u_len_u : Fn := mkFn N_Net_u_len_u.length b_Net_u_len_u
@[simp] theorem nl_Net_u_len_u : N_Net_u_len_u.length = 1 := rfl
def N_Net_coords : List Str := ["self"]
def b_Net_coords : SM :=
    (sR (eSlot "Drafts" 0 (eSlot "Net" 1 (eV 0))))
def m_Net_coords : Fn := mkFn N_Net_coords.length b_Net_coords
@[simp] theorem nl_Net_coords : N_Net_coords.length = 1 := rfl
def N_Net_cords : List Str := ["self"]
def b_Net_cords : SM :=
    (sR (eSlot "Net" 0 (eV 0)))
def m_Net_cords : Fn := mkFn N_Net_cords.length b_Net_cords
@[simp] theorem nl_Net_cords : N_Net_cords.length = 1 := rfl
def N_Net_rings : List Str := ["self"]
def b_Net_rings : SM :=
    (sR (eCB fTupD (lC (eSlot "Drafts" 3 (eSlot "Net" 1 (eV 0))) lN)))
def m_Net_rings : Fn := mkFn N_Net_rings.length b_Net_rings
@[simp] theorem nl_Net_rings : N_Net_rings.length = 1 := rfl
def N_Net_pegs : List Str := ["self"]
def b_Net_pegs : SM :=
    (sR (eCB fTup (lC (eSlot "Drafts" 2 (eSlot "Net" 1 (eV 0))) lN)))
def m_Net_pegs : Fn := mkFn N_Net_pegs.length b_Net_pegs
@[simp] theorem nl_Net_pegs : N_Net_pegs.length = 1 := rfl
def N_is_string : List Str := ["value", "some"]
def b_is_string : SM :=
    (sR (eAn (eIsi "str" (eV 0)) (eCmp inP (eV 0) (eV 1))))
def m_is_string : Fn := mkFn N_is_string.length b_is_string
@[simp] theorem nl_is_string : N_is_string.length = 2 := rfl
def N_check_name : List Str := ["net", "name"]
def b_check_name : SM :=
    (sIf (tNt (tT (eCall 2 m_is_string (lC (eV 1) (lC (eTup (lS (eProp "Net" m_Net_pegs (eV 0)) (lS (eProp "Net" m_Net_rings (eV 0)) lN))) lN))))) sBad sNx)
def m_check_name : Fn := mkFn N_check_name.length b_check_name
@[simp] theorem nl_check_name : N_check_name.length = 2 := rfl
def N_weight_of : List Str := ["net", "name"]
def b_weight_of : SM :=
    (sQ (sE (eCall 2 m_check_name (lC (eV 0) (lC (eV 1) lN))))
    (sR (eIf (tCp inP (eV 1) (eProp "Net" m_Net_rings (eV 0))) (eB itemP (eB itemP (eSlot "Drafts" 3 (eSlot "Net" 1 (eV 0))) (eV 1)) (eC (.int 1))) (eB (vMulA false) (eTup (lC (eC (.tup [(.int 0), (.int 1)])) lN)) (eProp "Net" m_Net_coords (eV 0))))))
def m_weight_of : Fn := mkFn N_weight_of.length b_weight_of
@[simp] theorem nl_weight_of : N_weight_of.length = 2 := rfl
def N_place_of : List Str := ["net", "name"]
def b_place_of : SM :=
    (sQ (sE (eCall 2 m_check_name (lC (eV 0) (lC (eV 1) lN))))
    (sR (eMeth "Drafts" 2 m_Drafts_place (eSlot "Net" 1 (eV 0)) (lC (eV 1) lN))))
def m_place_of : Fn := mkFn N_place_of.length b_place_of
@[simp] theorem nl_place_of : N_place_of.length = 2 := rfl
def N_check_cord : List Str := ["net", "cord"]
def b_check_cord : SM :=
    (sIf (tNt (tT (eCall 3 m_is_integer (lC (eV 1) (lC (eC (.int 0)) (lC (eB vSub (eCB fLen (lC (eProp "Net" m_Net_cords (eV 0)) lN)) (eC (.int 1))) lN)))))) sBad sNx)
def m_check_cord : Fn := mkFn N_check_cord.length b_check_cord
@[simp] theorem nl_check_cord : N_check_cord.length = 2 := rfl
def N_ratio : List Str := ["top", "bottom", "by"]
def b_ratio : SM :=
    (sQ (sA (eCall 2 m_common (lC (eV 0) (lC (eV 1) lN))) (gN 2))
    (sQ (sA (eIf (tCp gtP (eV 1) (eC (.int 0))) (eV 2) (eB vSub (eC (.int 0)) (eV 2))) (gN 2))
    (sR (eTup (lC (eB vDiv (eV 0) (eV 2)) (lC (eB vDiv (eV 1) (eV 2)) lN))))))
def m_ratio : Fn := mkFn N_ratio.length b_ratio
@[simp] theorem nl_ratio : N_ratio.length = 3 := rfl
def N_plus : List Str := ["one", "other"]
def b_plus : SM :=
    (sR (eCall 2 m_ratio (lC (eB (vAdd false) (eB vMul (eB itemP (eV 0) (eC (.int 0))) (eB itemP (eV 1) (eC (.int 1)))) (eB vMul (eB itemP (eV 1) (eC (.int 0))) (eB itemP (eV 0) (eC (.int 1))))) (lC (eB vMul (eB itemP (eV 0) (eC (.int 1))) (eB itemP (eV 1) (eC (.int 1)))) lN))))
def m_plus : Fn := mkFn N_plus.length b_plus
@[simp] theorem nl_plus : N_plus.length = 2 := rfl
def N_total : List Str := ["ratios", "found", "one"]
def b_total : SM :=
    (sQ (sA (eC (.tup [(.int 0), (.int 1)])) (gN 1))
    (sQ (sFor (iSeq (eV 0)) (gN 2) (sA (eCall 2 m_plus (lC (eV 1) (lC (eV 2) lN))) (gN 1)))
    (sR (eV 1))))
def m_total : Fn := mkFn N_total.length b_total
@[simp] theorem nl_total : N_total.length = 3 := rfl
def N_times : List Str := ["one", "other"]
def b_times : SM :=
    (sR (eCall 2 m_ratio (lC (eB vMul (eB itemP (eV 0) (eC (.int 0))) (eB itemP (eV 1) (eC (.int 0)))) (lC (eB vMul (eB itemP (eV 0) (eC (.int 1))) (eB itemP (eV 1) (eC (.int 1)))) lN))))
def m_times : Fn := mkFn N_times.length b_times
@[simp] theorem nl_times : N_times.length = 2 := rfl
def N_row_product : List Str := ["one", "other", "mine", "its"]
def b_row_product : SM :=
    (sR (eCall 1 m_total (lC (eLc (iZp (lC (eV 0) (lC (eV 1) lN))) [2, 3] (gT 2 (gsC (gN 2) (gsC (gN 3) gsN))) tY (eCall 2 m_times (lC (eV 2) (lC (eV 3) lN)))) lN)))
def m_row_product : Fn := mkFn N_row_product.length b_row_product
@[simp] theorem nl_row_product : N_row_product.length = 4 := rfl
def N_row_square : List Str := ["row"]
def b_row_square : SM :=
    (sR (eCall 2 m_row_product (lC (eV 0) (lC (eV 0) lN))))
def m_row_square : Fn := mkFn N_row_square.length b_row_square
@[simp] theorem nl_row_square : N_row_square.length = 1 := rfl
def N_less : List Str := ["one", "other"]
def b_less : SM :=
    (sR (eCall 2 m_ratio (lC (eB vSub (eB vMul (eB itemP (eV 0) (eC (.int 0))) (eB itemP (eV 1) (eC (.int 1)))) (eB vMul (eB itemP (eV 1) (eC (.int 0))) (eB itemP (eV 0) (eC (.int 1))))) (lC (eB vMul (eB itemP (eV 0) (eC (.int 1))) (eB itemP (eV 1) (eC (.int 1)))) lN))))
def m_less : Fn := mkFn N_less.length b_less
@[simp] theorem nl_less : N_less.length = 2 := rfl
def N_row_less : List Str := ["one", "other", "mine", "its"]
def b_row_less : SM :=
    (sR (eCB fTup (lC (eLc (iZp (lC (eV 0) (lC (eV 1) lN))) [2, 3] (gT 2 (gsC (gN 2) (gsC (gN 3) gsN))) tY (eCall 2 m_less (lC (eV 2) (lC (eV 3) lN)))) lN)))
def m_row_less : Fn := mkFn N_row_less.length b_row_less
@[simp] theorem nl_row_less : N_row_less.length = 4 := rfl
def N_way_of : List Str := ["net", "cord", "one", "other"]
def b_way_of : SM :=
    (sQ (sA (eB itemP (eProp "Net" m_Net_cords (eV 0)) (eV 1)) (gU 2 (gsC (gN 2) (gsC (gN 3) gsN))))
    (sR (eCall 2 m_row_less (lC (eMeth "Drafts" 2 m_Drafts_place (eSlot "Net" 1 (eV 0)) (lC (eV 3) lN)) (lC (eMeth "Drafts" 2 m_Drafts_place (eSlot "Net" 1 (eV 0)) (lC (eV 2) lN)) lN)))))
def m_way_of : Fn := mkFn N_way_of.length b_way_of
@[simp] theorem nl_way_of : N_way_of.length = 4 := rfl
def N_square_of : List Str := ["net", "cord"]
def b_square_of : SM :=
    (sQ (sE (eCall 2 m_check_cord (lC (eV 0) (lC (eV 1) lN))))
    (sR (eCall 1 m_row_square (lC (eCall 2 m_way_of (lC (eV 0) (lC (eV 1) lN))) lN))))
def m_square_of : Fn := mkFn N_square_of.length b_square_of
@[simp] theorem nl_square_of : N_square_of.length = 2 := rfl
def N_cords_at : List Str := ["net", "name", "at", "ends"]
def b_cords_at : SM :=
    (sQ (sE (eCall 2 m_check_name (lC (eV 0) (lC (eV 1) lN))))
    (sR (eCB fTup (lC (eLc (iEn (lC (eProp "Net" m_Net_cords (eV 0)) lN)) [2, 3] (gT 2 (gsC (gN 2) (gsC (gN 3) gsN))) (tCp inP (eV 1) (eV 3)) (eV 2)) lN))))
def m_cords_at : Fn := mkFn N_cords_at.length b_cords_at
@[simp] theorem nl_cords_at : N_cords_at.length = 4 := rfl
def N__law_are_names_right : List Str := ["net", "names", "p", "q", "r", "s", "told", "due"]
def b__law_are_names_right : SM :=
    (sQ (sA (eV 1) (gU 4 (gsC (gN 2) (gsC (gN 3) (gsC (gN 4) (gsC (gN 5) gsN))))))
    (sQ (sA (eLst true (lC (eProp "Net" m_Net_pegs (eV 0)) (lC (eProp "Net" m_Net_rings (eV 0)) (lC (eProp "Net" m_Net_cords (eV 0)) (lC (eProp "Net" m_Net_coords (eV 0)) (lC (eCB (fLenO "Net" m_Net_u_len_u) (lC (eV 0) lN)) lN)))))) (gN 6))
    (sQ (sE (eBM "list" mExtend (eV 6) (lC (eLst false (lC (eCall 2 m_place_of (lC (eV 0) (lC (eV 5) lN))) (lC (eCall 2 m_weight_of (lC (eV 0) (lC (eV 5) lN))) (lC (eCall 2 m_weight_of (lC (eV 0) (lC (eV 3) lN))) lN)))) lN)))
    (sQ (sA (eLst true (lC (eTup (lC (eV 2) (lC (eV 3) lN))) (lC (eTup (lC (eV 4) (lC (eV 5) lN))) (lC (eTup (lC (eTup (lC (eV 2) (lC (eV 4) lN))) (lC (eTup (lC (eV 4) (lC (eV 3) lN))) (lC (eTup (lC (eV 5) (lC (eV 4) lN))) lN)))) (lC (eC (.int 2)) (lC (eC (.int 2)) (lC (eTup (lC (eTup (lC (eC (.int 3)) (lC (eC (.int 1)) lN))) (lC (eTup (lC (eU vNeg (eC (.int 4))) (lC (eC (.int 1)) lN))) lN))) (lC (eTup (lC (eTup (lC (eC (.int 1)) (lC (eC (.int 2)) lN))) (lC (eTup (lC (eC (.int 0)) (lC (eC (.int 1)) lN))) lN))) (lC (eTup (lC (eTup (lC (eC (.int 0)) (lC (eC (.int 1)) lN))) (lC (eTup (lC (eC (.int 0)) (lC (eC (.int 1)) lN))) lN))) lN))))))))) (gN 7))
    (sQ (sE (eBM "list" mExtend (eV 6) (lC (eLst false (lC (eCall 2 m_square_of (lC (eV 0) (lC (eC (.int 0)) lN))) (lC (eCall 2 m_square_of (lC (eV 0) (lC (eC (.int 1)) lN))) (lC (eCall 2 m_square_of (lC (eV 0) (lC (eC (.int 2)) lN))) lN)))) lN)))
    (sQ (sE (eBM "list" mExtend (eV 6) (lC (eLst false (lC (eCall 2 m_cords_at (lC (eV 0) (lC (eV 4) lN))) (lC (eCall 2 m_cords_at (lC (eV 0) (lC (eV 5) lN))) (lC (eCall 2 m_cords_at (lC (eV 0) (lC (eV 2) lN))) lN)))) lN)))
    (sQ (sE (eBM "list" mExtend (eV 7) (lC (eLst false (lC (eTup (lC (eC (.int 9)) (lC (eC (.int 1)) lN))) (lC (eTup (lC (eC (.int 9)) (lC (eC (.int 1)) lN))) (lC (eTup (lC (eC (.int 16)) (lC (eC (.int 1)) lN))) (lC (eTup (lC (eC (.int 0)) (lC (eC (.int 1)) (lC (eC (.int 2)) lN)))) (lC (eTup (lC (eC (.int 2)) lN)) (lC (eTup (lC (eC (.int 0)) lN)) lN))))))) lN)))
    (sR (eCmp eqP (eCB fRepr (lC (eV 6) lN)) (eCB fRepr (lC (eV 7) lN)))))))))))
def m__law_are_names_right : Fn := mkFn N__law_are_names_right.length b__law_are_names_right
@[simp] theorem nl__law_are_names_right : N__law_are_names_right.length = 8 := rfl
def N_picture : List Str := ["net", "name"]
def b_picture : SM :=
    (sR (eCB fTup (lC (eLc (iSeq (eProp "Net" m_Net_rings (eV 0))) [1] (gN 1) tY (eCall 2 m_place_of (lC (eV 0) (lC (eV 1) lN)))) lN)))
def m_picture : Fn := mkFn N_picture.length b_picture
@[simp] theorem nl_picture : N_picture.length = 2 := rfl
def N_is_tuple : List Str := ["value", "low", "high"]
def b_is_tuple : SM :=
    (sR (eAn (eIsi "tuple" (eV 0)) (eCh leP leP (eV 1) (eCB fLen (lC (eV 0) lN)) (eV 2))))
def m_is_tuple : Fn := mkFn N_is_tuple.length b_is_tuple
@[simp] theorem nl_is_tuple : N_is_tuple.length = 3 := rfl
def N_is_row : List Str := ["value", "low", "high", "one"]
def b_is_row : SM :=
    (sR (eAn (eIsi "tuple" (eV 0)) (eAn (eCh leP leP (eV 1) (eCB fLen (lC (eV 0) lN)) (eV 2)) (eCB fAll (lC (eLc (iSeq (eV 0)) [3] (gN 3) tY (eCall 1 m_is_ratio (lC (eV 3) lN))) lN)))))
def m_is_row : Fn := mkFn N_is_row.length b_is_row
@[simp] theorem nl_is_row : N_is_row.length = 4 := rfl
def N_are_rows : List Str := ["net", "value", "row"]
def b_are_rows : SM :=
    (sQ (sIf (AM.tOr (tNt (tT (eCall 3 m_is_tuple (lC (eV 1) (lC (eCB (fLenO "Net" m_Net_u_len_u) (lC (eV 0) lN)) (lC (eCB (fLenO "Net" m_Net_u_len_u) (lC (eV 0) lN)) lN)))))) (tNt (tT (eCB fAll (lC (eLc (iSeq (eV 1)) [2] (gN 2) tY (eCall 3 m_is_row (lC (eV 2) (lC (eProp "Net" m_Net_coords (eV 0)) (lC (eC (.int 12)) lN))))) lN))))) (sR (eC (.bl false))) sNx)
    (sR (eCB fAll (lC (eLc (iSeq (eV 1)) [2] (gN 2) tY (eCmp eqP (eCB fLen (lC (eV 2) lN)) (eCB fLen (lC (eB itemP (eV 1) (eC (.int 0))) lN)))) lN))))
def m_are_rows : Fn := mkFn N_are_rows.length b_are_rows
@[simp] theorem nl_are_rows : N_are_rows.length = 3 := rfl
def N_led_on : List Str := ["row", "many", "lap"]
def b_led_on : SM :=
    (sR (eTup (lS (eV 0) (lS (eLc (iRg1 (lC (eB vSub (eV 1) (eCB fLen (lC (eV 0) lN))) lN)) [2] (gN 2) tY (eC (.tup [(.int 0), (.int 1)]))) lN))))
def m_led_on : Fn := mkFn N_led_on.length b_led_on
@[simp] theorem nl_led_on : N_led_on.length = 3 := rfl
def N_width_of : List Str := ["net", "placement"]
def b_width_of : SM :=
    (sR (eIf (tCp neP (eV 1) (eTup lN)) (eCB fLen (lC (eB itemP (eV 1) (eC (.int 0))) lN)) (eProp "Net" m_Net_coords (eV 0))))
def m_width_of : Fn := mkFn N_width_of.length b_width_of
@[simp] theorem nl_width_of : N_width_of.length = 2 := rfl
def N_spot : List Str := ["net", "placement", "name"]
def b_spot : SM :=
    (sQ (sIf (tCp inP (eV 2) (eProp "Net" m_Net_rings (eV 0))) (sR (eB itemP (eV 1) (eIdx "Net" m_Net_rings (eV 0) (eV 2)))) sNx)
    (sR (eCall 2 m_led_on (lC (eCall 2 m_place_of (lC (eV 0) (lC (eV 2) lN))) (lC (eCall 2 m_width_of (lC (eV 0) (lC (eV 1) lN))) lN)))))
def m_spot : Fn := mkFn N_spot.length b_spot
@[simp] theorem nl_spot : N_spot.length = 3 := rfl
def N_square_apart : List Str := ["net", "placement", "one", "other"]
def b_square_apart : SM :=
    (sR (eCall 1 m_row_square (lC (eCall 2 m_row_less (lC (eCall 3 m_spot (lC (eV 0) (lC (eV 1) (lC (eV 2) lN)))) (lC (eCall 3 m_spot (lC (eV 0) (lC (eV 1) (lC (eV 3) lN)))) lN))) lN)))
def m_square_apart : Fn := mkFn N_square_apart.length b_square_apart
@[simp] theorem nl_square_apart : N_square_apart.length = 4 := rfl
def N_loose_by : List Str := ["net", "placement", "found", "cord", "one", "other"]
def b_loose_by : SM :=
    (sQ (sA (eLst true lN) (gN 2))
    (sQ (sFor (iEn (lC (eProp "Net" m_Net_cords (eV 0)) lN)) (gT 2 (gsC (gN 3) (gsC (gT 2 (gsC (gN 4) (gsC (gN 5) gsN))) gsN))) (sE (eBM "list" mAppend (eV 2) (lC (eCall 2 m_less (lC (eCall 2 m_square_of (lC (eV 0) (lC (eV 3) lN))) (lC (eCall 4 m_square_apart (lC (eV 0) (lC (eV 1) (lC (eV 4) (lC (eV 5) lN))))) lN))) lN))))
    (sR (eCB fTup (lC (eV 2) lN)))))
def m_loose_by : Fn := mkFn N_loose_by.length b_loose_by
@[simp] theorem nl_loose_by : N_loose_by.length = 6 := rfl
def N_is_below : List Str := ["one", "other"]
def b_is_below : SM :=
    (sR (eCmp ltP (eB vMul (eB itemP (eV 0) (eC (.int 0))) (eB itemP (eV 1) (eC (.int 1)))) (eB vMul (eB itemP (eV 1) (eC (.int 0))) (eB itemP (eV 0) (eC (.int 1))))))
def m_is_below : Fn := mkFn N_is_below.length b_is_below
@[simp] theorem nl_is_below : N_is_below.length = 2 := rfl
def N_is_placement : List Str := ["net", "value", "much"]
def b_is_placement : SM :=
    (sR (eAn (eCall 2 m_are_rows (lC (eV 0) (lC (eV 1) lN))) (eNt (eCB fAny (lC (eLc (iSeq (eCall 2 m_loose_by (lC (eV 0) (lC (eV 1) lN)))) [2] (gN 2) tY (eCall 2 m_is_below (lC (eV 2) (lC (eC (.tup [(.int 0), (.int 1)])) lN)))) lN)))))
def m_is_placement : Fn := mkFn N_is_placement.length b_is_placement
@[simp] theorem nl_is_placement : N_is_placement.length = 3 := rfl
def N_check_placement : List Str := ["net", "placement"]
def b_check_placement : SM :=
    (sIf (tNt (tT (eCall 2 m_is_placement (lC (eV 0) (lC (eV 1) lN))))) sBad sNx)
def m_check_placement : Fn := mkFn N_check_placement.length b_check_placement
@[simp] theorem nl_check_placement : N_check_placement.length = 2 := rfl
def N_is_rate : List Str := ["value"]
def b_is_rate : SM :=
    (sR (eAn (eCall 1 m_is_ratio (lC (eV 0) lN)) (eCmp geP (eB itemP (eV 0) (eC (.int 0))) (eC (.int 0)))))
def m_is_rate : Fn := mkFn N_is_rate.length b_is_rate
@[simp] theorem nl_is_rate : N_is_rate.length = 1 := rfl
def N_row_plus : List Str := ["one", "other", "mine", "its"]
def b_row_plus : SM :=
    (sR (eCB fTup (lC (eLc (iZp (lC (eV 0) (lC (eV 1) lN))) [2, 3] (gT 2 (gsC (gN 2) (gsC (gN 3) gsN))) tY (eCall 2 m_plus (lC (eV 2) (lC (eV 3) lN)))) lN)))
def m_row_plus : Fn := mkFn N_row_plus.length b_row_plus
@[simp] theorem nl_row_plus : N_row_plus.length = 4 := rfl
def N_row_times : List Str := ["row", "by", "one"]
def b_row_times : SM :=
    (sR (eCB fTup (lC (eLc (iSeq (eV 0)) [2] (gN 2) tY (eCall 2 m_times (lC (eV 2) (lC (eV 1) lN)))) lN)))
def m_row_times : Fn := mkFn N_row_times.length b_row_times
@[simp] theorem nl_row_times : N_row_times.length = 3 := rfl
def N_mixture : List Str := ["net", "one", "other", "share", "many", "rest", "found", "mine", "its"]
def b_mixture : SM :=
    (sQ (sE (eCall 2 m_check_placement (lC (eV 0) (lC (eV 1) lN))))
    (sQ (sE (eCall 2 m_check_placement (lC (eV 0) (lC (eV 2) lN))))
    (sQ (sIf (AM.tOr (tNt (tT (eCall 1 m_is_rate (lC (eV 3) lN)))) (tT (eCall 2 m_is_below (lC (eC (.tup [(.int 1), (.int 1)])) (lC (eV 3) lN))))) sBad sNx)
    (sQ (sPar 4 5 (lC (eCB fMax (lC (eCall 2 m_width_of (lC (eV 0) (lC (eV 1) lN))) (lC (eCall 2 m_width_of (lC (eV 0) (lC (eV 2) lN))) lN))) (lC (eCall 2 m_less (lC (eC (.tup [(.int 1), (.int 1)])) (lC (eV 3) lN))) lN)))
    (sQ (sA (eLst true lN) (gN 6))
    (sQ (sFor (iZp (lC (eV 1) (lC (eV 2) lN))) (gT 2 (gsC (gN 7) (gsC (gN 8) gsN))) (sE (eBM "list" mAppend (eV 6) (lC (eCall 2 m_row_plus (lC (eCall 2 m_row_times (lC (eCall 2 m_led_on (lC (eV 7) (lC (eV 4) lN))) (lC (eV 5) lN))) (lC (eCall 2 m_row_times (lC (eCall 2 m_led_on (lC (eV 8) (lC (eV 4) lN))) (lC (eV 3) lN))) lN))) lN))))
    (sR (eCB fTup (lC (eV 6) lN)))))))))
def m_mixture : Fn := mkFn N_mixture.length b_mixture
@[simp] theorem nl_mixture : N_mixture.length = 9 := rfl
def N_lets : List Str := ["net", "placement"]
def b_lets : SM :=
    (sQ (sE (eCall 2 m_check_placement (lC (eV 0) (lC (eV 1) lN))))
    (sR (eCall 2 m_loose_by (lC (eV 0) (lC (eV 1) lN)))))
def m_lets : Fn := mkFn N_lets.length b_lets
@[simp] theorem nl_lets : N_lets.length = 2 := rfl
def N_score : List Str := ["net", "placement", "name", "row"]
def b_score : SM :=
    (sQ (sE (eCall 2 m_check_placement (lC (eV 0) (lC (eV 1) lN))))
    (sR (eCall 1 m_total (lC (eLc (iZp (lC (eProp "Net" m_Net_rings (eV 0)) (lC (eV 1) lN))) [2, 3] (gT 2 (gsC (gN 2) (gsC (gN 3) gsN))) tY (eCall 2 m_row_product (lC (eCall 2 m_weight_of (lC (eV 0) (lC (eV 2) lN))) (lC (eV 3) lN)))) lN))))
def m_score : Fn := mkFn N_score.length b_score
@[simp] theorem nl_score : N_score.length = 4 := rfl
def N_between : List Str := ["net", "placement", "one", "other"]
def b_between : SM :=
    (sQ (sE (eCall 2 m_check_placement (lC (eV 0) (lC (eV 1) lN))))
    (sQ (sE (eCall 2 m_check_name (lC (eV 0) (lC (eV 2) lN))))
    (sQ (sE (eCall 2 m_check_name (lC (eV 0) (lC (eV 3) lN))))
    (sR (eCall 4 m_square_apart (lC (eV 0) (lC (eV 1) (lC (eV 2) (lC (eV 3) lN)))))))))
def m_between : Fn := mkFn N_between.length b_between
@[simp] theorem nl_between : N_between.length = 4 := rfl
def N_are_moves : List Str := ["net", "value", "row"]
def b_are_moves : SM :=
    (sQ (sIf (tNt (tT (eCall 3 m_is_tuple (lC (eV 1) (lC (eCB fLen (lC (eProp "Net" m_Net_rings (eV 0)) lN)) (lC (eCB fLen (lC (eProp "Net" m_Net_rings (eV 0)) lN)) lN)))))) (sR (eC (.bl false))) sNx)
    (sR (eCB fAll (lC (eLc (iSeq (eV 1)) [2] (gN 2) tY (eCall 3 m_is_row (lC (eV 2) (lC (eProp "Net" m_Net_coords (eV 0)) (lC (eProp "Net" m_Net_coords (eV 0)) lN))))) lN))))
def m_are_moves : Fn := mkFn N_are_moves.length b_are_moves
@[simp] theorem nl_are_moves : N_are_moves.length = 3 := rfl
def N_moved : List Str := ["net", "moves", "step", "place", "row"]
def b_moved : SM :=
    (sQ (sIf (tNt (tT (eCall 2 m_are_moves (lC (eV 0) (lC (eV 1) lN))))) sBad sNx)
    (sQ (sIf (tNt (tT (eCall 1 m_is_ratio (lC (eV 2) lN)))) sBad sNx)
    (sR (eCB fTup (lC (eLc (iZp (lC (eCall 1 m_picture (lC (eV 0) lN)) (lC (eV 1) lN))) [3, 4] (gT 2 (gsC (gN 3) (gsC (gN 4) gsN))) tY (eCall 2 m_row_plus (lC (eV 3) (lC (eCall 2 m_row_times (lC (eV 4) (lC (eV 2) lN))) lN)))) lN)))))
def m_moved : Fn := mkFn N_moved.length b_moved
@[simp] theorem nl_moved : N_moved.length = 5 := rfl
def N__law_are_rows_right : List Str := ["net", "names", "p", "q", "r", "s", "drawn", "other", "deep", "far", "half", "moves", "told", "due"]
def b__law_are_rows_right : SM :=
    (sQ (sA (eV 1) (gU 4 (gsC (gN 2) (gsC (gN 3) (gsC (gN 4) (gsC (gN 5) gsN))))))
    (sQ (sPar 6 7 (lC (eCall 1 m_picture (lC (eV 0) lN)) (lC (eTup (lC (eTup (lC (eTup (lC (eC (.int 3)) (lC (eC (.int 1)) lN))) (lC (eTup (lC (eC (.int 0)) (lC (eC (.int 1)) lN))) lN))) (lC (eTup (lC (eTup (lC (eC (.int 5)) (lC (eC (.int 1)) lN))) (lC (eTup (lC (eU vNeg (eC (.int 2))) (lC (eC (.int 1)) lN))) lN))) lN))) lN)))
    (sQ (sA (eTup (lC (eTup (lC (eTup (lC (eC (.int 3)) (lC (eC (.int 1)) lN))) (lC (eTup (lC (eC (.int 0)) (lC (eC (.int 1)) lN))) (lC (eTup (lC (eC (.int 0)) (lC (eC (.int 1)) lN))) lN)))) (lC (eTup (lC (eTup (lC (eC (.int 3)) (lC (eC (.int 1)) lN))) (lC (eTup (lC (eU vNeg (eC (.int 2))) (lC (eC (.int 1)) lN))) (lC (eTup (lC (eC (.int 2)) (lC (eC (.int 1)) lN))) lN)))) lN))) (gN 8))
    (sQ (sA (eTup (lC (eTup (lC (eTup (lC (eC (.int 3)) (lC (eC (.int 1)) lN))) (lC (eTup (lC (eC (.int 1)) (lC (eC (.int 1)) lN))) lN))) (lC (eTup (lC (eTup (lC (eC (.int 3)) (lC (eC (.int 1)) lN))) (lC (eTup (lC (eU vNeg (eC (.int 3))) (lC (eC (.int 1)) lN))) lN))) lN))) (gN 9))
    (sQ (sPar 10 11 (lC (eCall 4 m_mixture (lC (eV 0) (lC (eV 6) (lC (eV 7) (lC (eTup (lC (eC (.int 1)) (lC (eC (.int 2)) lN))) lN))))) (lC (eTup (lC (eTup (lC (eTup (lC (eC (.int 0)) (lC (eC (.int 1)) lN))) (lC (eTup (lC (eC (.int 0)) (lC (eC (.int 1)) lN))) lN))) (lC (eTup (lC (eTup (lC (eC (.int 1)) (lC (eC (.int 1)) lN))) (lC (eTup (lC (eC (.int 1)) (lC (eC (.int 1)) lN))) lN))) lN))) lN)))
    (sQ (sA (eLst true (lC (eV 6) (lC (eCall 2 m_is_placement (lC (eV 0) (lC (eV 6) lN))) (lC (eCall 2 m_is_placement (lC (eV 0) (lC (eV 7) lN))) (lC (eCall 2 m_is_placement (lC (eV 0) (lC (eV 8) lN))) (lC (eCall 2 m_is_placement (lC (eV 0) (lC (eV 9) lN))) lN)))))) (gN 12))
    (sQ (sA (eLst true (lC (eTup (lC (eTup (lC (eTup (lC (eC (.int 3)) (lC (eC (.int 1)) lN))) (lC (eTup (lC (eC (.int 0)) (lC (eC (.int 1)) lN))) lN))) (lC (eTup (lC (eTup (lC (eC (.int 3)) (lC (eC (.int 1)) lN))) (lC (eTup (lC (eU vNeg (eC (.int 4))) (lC (eC (.int 1)) lN))) lN))) lN))) (lC (eC (.bl true)) (lC (eC (.bl true)) (lC (eC (.bl true)) (lC (eC (.bl false)) lN)))))) (gN 13))
    (sQ (sE (eBM "list" mExtend (eV 12) (lC (eLst false (lC (eCall 2 m_lets (lC (eV 0) (lC (eV 6) lN))) (lC (eCall 2 m_lets (lC (eV 0) (lC (eV 7) lN))) (lC (eCall 2 m_lets (lC (eV 0) (lC (eV 8) lN))) lN)))) lN)))
    (sQ (sE (eBM "list" mExtend (eV 12) (lC (eLst false (lC (eCall 2 m_score (lC (eV 0) (lC (eV 6) lN))) (lC (eCall 2 m_score (lC (eV 0) (lC (eV 7) lN))) (lC (eCall 2 m_score (lC (eV 0) (lC (eV 8) lN))) lN)))) lN)))
    (sQ (sE (eBM "list" mExtend (eV 13) (lC (eLst false (lC (eB (vMulA false) (eTup (lC (eTup (lC (eC (.int 0)) (lC (eC (.int 1)) lN))) lN)) (eC (.int 3))) (lC (eTup (lC (eTup (lC (eC (.int 0)) (lC (eC (.int 1)) lN))) (lC (eTup (lC (eC (.int 0)) (lC (eC (.int 1)) lN))) (lC (eTup (lC (eC (.int 8)) (lC (eC (.int 1)) lN))) lN)))) (lC (eTup (lC (eTup (lC (eC (.int 0)) (lC (eC (.int 1)) lN))) (lC (eTup (lC (eC (.int 0)) (lC (eC (.int 1)) lN))) (lC (eTup (lC (eC (.int 8)) (lC (eC (.int 1)) lN))) lN)))) (lC (eTup (lC (eC (.int 3)) (lC (eC (.int 2)) lN))) (lC (eTup (lC (eC (.int 5)) (lC (eC (.int 2)) lN))) (lC (eTup (lC (eC (.int 3)) (lC (eC (.int 2)) lN))) lN))))))) lN)))
    (sQ (sE (eBM "list" mExtend (eV 12) (lC (eLst false (lC (eV 10) (lC (eCall 2 m_lets (lC (eV 0) (lC (eV 10) lN))) (lC (eCall 2 m_score (lC (eV 0) (lC (eV 10) lN))) (lC (eCall 4 m_between (lC (eV 0) (lC (eV 7) (lC (eV 5) (lC (eV 3) lN))))) (lC (eCall 4 m_between (lC (eV 0) (lC (eV 8) (lC (eV 2) (lC (eV 5) lN))))) lN)))))) lN)))
    (sQ (sE (eBM "list" mExtend (eV 13) (lC (eLst false (lC (eTup (lC (eTup (lC (eTup (lC (eC (.int 3)) (lC (eC (.int 1)) lN))) (lC (eTup (lC (eC (.int 0)) (lC (eC (.int 1)) lN))) lN))) (lC (eTup (lC (eTup (lC (eC (.int 4)) (lC (eC (.int 1)) lN))) (lC (eTup (lC (eU vNeg (eC (.int 3))) (lC (eC (.int 1)) lN))) lN))) lN))) (lC (eTup (lC (eTup (lC (eC (.int 0)) (lC (eC (.int 1)) lN))) (lC (eTup (lC (eC (.int 0)) (lC (eC (.int 1)) lN))) (lC (eTup (lC (eC (.int 6)) (lC (eC (.int 1)) lN))) lN)))) (lC (eTup (lC (eC (.int 2)) (lC (eC (.int 1)) lN))) (lC (eTup (lC (eC (.int 5)) (lC (eC (.int 1)) lN))) (lC (eTup (lC (eC (.int 17)) (lC (eC (.int 1)) lN))) lN)))))) lN)))
    (sQ (sE (eBM "list" mExtend (eV 12) (lC (eLst false (lC (eCall 3 m_moved (lC (eV 0) (lC (eV 11) (lC (eTup (lC (eC (.int 2)) (lC (eC (.int 1)) lN))) lN)))) (lC (eCall 2 m_is_placement (lC (eV 0) (lC (eCall 3 m_moved (lC (eV 0) (lC (eV 11) (lC (eTup (lC (eU vNeg (eC (.int 1))) (lC (eC (.int 1)) lN))) lN)))) lN))) lN))) lN)))
    (sQ (sE (eBM "list" mAppend (eV 12) (lC (eB itemP (eCall 4 m_mixture (lC (eV 0) (lC (eV 6) (lC (eV 8) (lC (eTup (lC (eC (.int 1)) (lC (eC (.int 4)) lN))) lN))))) (eC (.int 1))) lN)))
    (sQ (sE (eBM "list" mExtend (eV 13) (lC (eLst false (lC (eV 7) (lC (eC (.bl false)) (lC (eTup (lC (eTup (lC (eC (.int 3)) (lC (eC (.int 1)) lN))) (lC (eTup (lC (eU vNeg (eC (.int 7))) (lC (eC (.int 2)) lN))) (lC (eTup (lC (eC (.int 1)) (lC (eC (.int 2)) lN))) lN)))) lN)))) lN)))
    (sR (eCmp eqP (eCB fRepr (lC (eV 12) lN)) (eCB fRepr (lC (eV 13) lN)))))))))))))))))))
def m__law_are_rows_right : Fn := mkFn N__law_are_rows_right.length b__law_are_rows_right
@[simp] theorem nl__law_are_rows_right : N__law_are_rows_right.length = 14 := rfl
def N__law_are_calls_right : List Str := ["net", "names", "p", "q", "r", "s", "drawn", "other", "moves", "pairs", "one", "its"]
def b__law_are_calls_right : SM :=
    (sQ (sA (eV 1) (gU 4 (gsC (gN 2) (gsC (gN 3) (gsC (gN 4) (gsC (gN 5) gsN))))))
    (sQ (sPar3 6 7 8 (lC (eCall 1 m_picture (lC (eV 0) lN)) (lC (eTup (lC (eTup (lC (eTup (lC (eC (.int 3)) (lC (eC (.int 1)) lN))) (lC (eTup (lC (eC (.int 0)) (lC (eC (.int 1)) lN))) lN))) (lC (eTup (lC (eTup (lC (eC (.int 5)) (lC (eC (.int 1)) lN))) (lC (eTup (lC (eU vNeg (eC (.int 2))) (lC (eC (.int 1)) lN))) lN))) lN))) (lC (eTup (lC (eTup (lC (eTup (lC (eC (.int 1)) (lC (eC (.int 1)) lN))) (lC (eTup (lC (eC (.int 0)) (lC (eC (.int 1)) lN))) lN))) (lC (eTup (lC (eTup (lC (eC (.int 0)) (lC (eC (.int 1)) lN))) (lC (eTup (lC (eC (.int 1)) (lC (eC (.int 1)) lN))) lN))) lN))) lN))))
    (sQ (sA (eLst true (lC (eTup (lC (eCallK 0 2 2 [1, 0] m_place_of lN (lC (eV 4) (lC (eV 0) lN))) (lC (eCall 2 m_place_of (lC (eV 0) (lC (eV 4) lN))) lN))) (lC (eTup (lC (eCallK 0 2 2 [1, 0] m_weight_of lN (lC (eV 4) (lC (eV 0) lN))) (lC (eCall 2 m_weight_of (lC (eV 0) (lC (eV 4) lN))) lN))) lN))) (gN 9))
    (sQ (sE (eBM "list" mExtend (eV 9) (lC (eLst false (lC (eTup (lC (eCallK 0 2 2 [1, 0] m_square_of lN (lC (eC (.int 2)) (lC (eV 0) lN))) (lC (eCall 2 m_square_of (lC (eV 0) (lC (eC (.int 2)) lN))) lN))) (lC (eTup (lC (eCallK 0 2 2 [1, 0] m_cords_at lN (lC (eV 3) (lC (eV 0) lN))) (lC (eCall 2 m_cords_at (lC (eV 0) (lC (eV 3) lN))) lN))) lN))) lN)))
    (sQ (sE (eBM "list" mExtend (eV 9) (lC (eLst false (lC (eTup (lC (eCallK 0 1 1 [0] m_picture lN (lC (eV 0) lN)) (lC (eV 6) lN))) (lC (eTup (lC (eCallK 0 2 2 [1, 0] m_is_placement lN (lC (eV 7) (lC (eV 0) lN))) (lC (eC (.bl true)) lN))) lN))) lN)))
    (sQ (sE (eBM "list" mAppend (eV 9) (lC (eTup (lC (eCallK 0 2 2 [1, 0] m_lets lN (lC (eV 7) (lC (eV 0) lN))) (lC (eCall 2 m_lets (lC (eV 0) (lC (eV 7) lN))) lN))) lN)))
    (sQ (sE (eBM "list" mAppend (eV 9) (lC (eTup (lC (eCallK 0 2 2 [1, 0] m_score lN (lC (eV 7) (lC (eV 0) lN))) (lC (eCall 2 m_score (lC (eV 0) (lC (eV 7) lN))) lN))) lN)))
    (sQ (sE (eBM "list" mAppend (eV 9) (lC (eTup (lC (eCallK 0 4 4 [3, 2, 1, 0] m_between lN (lC (eV 2) (lC (eV 5) (lC (eV 7) (lC (eV 0) lN))))) (lC (eCall 4 m_between (lC (eV 0) (lC (eV 7) (lC (eV 5) (lC (eV 2) lN))))) lN))) lN)))
    (sQ (sE (eBM "list" mAppend (eV 9) (lC (eTup (lC (eCallK 0 4 4 [3, 2, 1, 0] m_mixture lN (lC (eTup (lC (eC (.int 1)) (lC (eC (.int 3)) lN))) (lC (eV 7) (lC (eV 6) (lC (eV 0) lN))))) (lC (eCall 4 m_mixture (lC (eV 0) (lC (eV 6) (lC (eV 7) (lC (eTup (lC (eC (.int 1)) (lC (eC (.int 3)) lN))) lN))))) lN))) lN)))
    (sQ (sE (eBM "list" mAppend (eV 9) (lC (eTup (lC (eCallK 0 3 3 [2, 1, 0] m_moved lN (lC (eTup (lC (eC (.int 1)) (lC (eC (.int 2)) lN))) (lC (eV 8) (lC (eV 0) lN)))) (lC (eCall 3 m_moved (lC (eV 0) (lC (eV 8) (lC (eTup (lC (eC (.int 1)) (lC (eC (.int 2)) lN))) lN)))) lN))) lN)))
    (sR (eCB fAll (lC (eLc (iSeq (eV 9)) [10, 11] (gT 2 (gsC (gN 10) (gsC (gN 11) gsN))) tY (eCmp eqP (eCB fRepr (lC (eV 10) lN)) (eCB fRepr (lC (eV 11) lN)))) lN)))))))))))))
def m__law_are_calls_right : Fn := mkFn N__law_are_calls_right.length b__law_are_calls_right
@[simp] theorem nl__law_are_calls_right : N__law_are_calls_right.length = 12 := rfl
def N__law_right : List Str := ["pot", "names", "net"]
def b__law_right : SM :=
    (sQ (sA (eCall 3 m__law_some (lC (eV 0) (lC (eLst false (lC (eC (.str "a")) (lC (eC (.str "hook")) (lC (eC (.str "moon")) (lC (eC (.str "zz")) (lC (eC (.str "ring")) (lC (eC (.str "peg")) (lC (eC (.str "k")) (lC (eC (.str "lamp")) lN))))))))) (lC (eC (.int 4)) lN)))) (gN 1))
    (sQ (sA (eNew "Net" 2 m_Net_u_init_u (lC (eCall 1 m__law_text (lC (eV 1) lN)) lN)) (gN 2))
    (sQ (sIf (AM.tOr (tNt (tT (eCall 2 m__law_are_names_right (lC (eV 2) (lC (eV 1) lN))))) (tNt (tT (eCall 2 m__law_are_rows_right (lC (eV 2) (lC (eV 1) lN)))))) (sR (eC (.bl false))) sNx)
    (sR (eCall 2 m__law_are_calls_right (lC (eV 2) (lC (eV 1) lN)))))))
def m__law_right : Fn := mkFn N__law_right.length b__law_right
@[simp] theorem nl__law_right : N__law_right.length = 3 := rfl
def N__law_pot : List Str := ["script", "at", "cell", "own", "small"]
def b__law_pot : SM :=
    (sQ (sA (eIf (tCp ltP (eV 1) (eCB fLen (lC (eV 0) lN))) (eB itemP (eV 0) (eV 1)) (eB (vAdd false) (eB (vAdd false) (eB vMod (eCB fSum (lC (eSlice false (eV 0) oN (oS (eC (.int 1)))) lN)) (eC (.int 1000003))) (eB vMul (eC (.int 2540)) (eV 1))) (eC (.int 1568)))) (gN 2))
    (sQ (sA (eB vMul (eB vMod (eCB fInt (lC (eCB fAbs (lC (eV 2) lN)) lN)) (eB vPow (eB vPow (eC (.int 10)) (eC (.int 60))) (eC (.int 5)))) (eCB fInt (lC (eCmp geP (eCB fAbs (lC (eV 2) lN)) (eB vPow (eC (.int 10)) (eC (.int 18)))) lN))) (gN 3))
    (sQ (sA (eB vMod (eCB fInt (lC (eV 2) lN)) (eC (.int 2305843009213693951))) (gN 4))
    (sR (eLst true (lC (eV 3) (lC (eB vMod (eCB fInt (lC (eB (vAdd false) (eB (vAdd false) (eB vMul (eV 4) (eC (.int 80102))) (eB vMul (eB vMul (eC (.int 10890)) (eV 1)) (eV 1))) (eC (.int 1670))) lN)) (eC (.int 2305843009213693921))) (lC (eC (.int 0)) lN))))))))
def m__law_pot : Fn := mkFn N__law_pot.length b__law_pot
@[simp] theorem nl__law_pot : N__law_pot.length = 5 := rfl
def N_law : List Str := ["script"]
def b_law : SM :=
    (sR (eCall 1 m__law_right (lC (eCall 2 m__law_pot (lC (eV 0) (lC (eC (.int 0)) lN))) lN)))
def m_law : Fn := mkFn N_law.length b_law
@[simp] theorem nl_law : N_law.length = 1 := rfl
end
end K13
/-! The walk, printed by gen.py. -/
namespace K13w
open PySem PySem.Spec PyProof.Rows L2 AM K13
def top (i : Nat) : Stmt := PySem.Challenge.pw_cordsatrest_k13_a_story_by_hand_and_by_n.main.body.getD i (.Pass ⟨0, 0, 0, 0⟩)
abbrev R : PySem.W.OpenRow := PySem.W.OpenLaw.row PySem.Challenge.rw_cordsatrest_k13_a_story_by_hand_and_by_n

/-! ### the defs -/
def d__law_take : DefA := ⟨atG "_law_take", "_law_take", "_law_take", defArgs (top 89), defBody (top 89), defScope (top 89)⟩
theorem sc__law_take : FnScope N__law_take ["pot", "upto"] (defScope (top 89)) := ⟨rfl, rfl, rfl, by decide +kernel, rfl, by decide +kernel, by decide +kernel⟩
theorem bp__law_take : BindP (defArgs (top 89)) ["pot", "upto"] := fun _ _ _ _ _ _ _ _ _ _ us hl => match us, hl with | [_, _], _ => rfl
def d__law_some : DefA := ⟨atG "_law_some", "_law_some", "_law_some", defArgs (top 90), defBody (top 90), defScope (top 90)⟩
theorem sc__law_some : FnScope N__law_some ["pot", "pool", "many"] (defScope (top 90)) := ⟨rfl, rfl, rfl, by decide +kernel, rfl, by decide +kernel, by decide +kernel⟩
theorem bp__law_some : BindP (defArgs (top 90)) ["pot", "pool", "many"] := fun _ _ _ _ _ _ _ _ _ _ us hl => match us, hl with | [_, _, _], _ => rfl
def d_lines_of : DefA := ⟨atG "lines_of", "lines_of", "lines_of", defArgs (top 39), defBody (top 39), defScope (top 39)⟩
theorem sc_lines_of : FnScope N_lines_of ["text"] (defScope (top 39)) := ⟨rfl, rfl, rfl, by decide +kernel, rfl, by decide +kernel, by decide +kernel⟩
theorem bp_lines_of : BindP (defArgs (top 39)) ["text"] := fun _ _ _ _ _ _ _ _ _ _ us hl => match us, hl with | [_], _ => rfl
def d_whole_in : DefA := ⟨atG "whole_in", "whole_in", "whole_in", defArgs (top 24), defBody (top 24), defScope (top 24)⟩
theorem sc_whole_in : FnScope N_whole_in ["word"] (defScope (top 24)) := ⟨rfl, rfl, rfl, by decide +kernel, rfl, by decide +kernel, by decide +kernel⟩
theorem bp_whole_in : BindP (defArgs (top 24)) ["word"] := fun _ _ _ _ _ _ _ _ _ _ us hl => match us, hl with | [_], _ => rfl
def d_is_whole : DefA := ⟨atG "is_whole", "is_whole", "is_whole", defArgs (top 8), defBody (top 8), defScope (top 8)⟩
theorem sc_is_whole : FnScope N_is_whole ["value"] (defScope (top 8)) := ⟨rfl, rfl, rfl, by decide +kernel, rfl, by decide +kernel, by decide +kernel⟩
theorem bp_is_whole : BindP (defArgs (top 8)) ["value"] := fun _ _ _ _ _ _ _ _ _ _ us hl => match us, hl with | [_], _ => rfl
def d_is_integer : DefA := ⟨atG "is_integer", "is_integer", "is_integer", defArgs (top 33), defBody (top 33), defScope (top 33)⟩
theorem sc_is_integer : FnScope N_is_integer ["value", "low", "high"] (defScope (top 33)) := ⟨rfl, rfl, rfl, by decide +kernel, rfl, by decide +kernel, by decide +kernel⟩
theorem bp_is_integer : BindP (defArgs (top 33)) ["value", "low", "high"] := fun _ _ _ _ _ _ _ _ _ _ us hl => match us, hl with | [_, _, _], _ => rfl
def d_coords_in : DefA := ⟨atG "coords_in", "coords_in", "coords_in", defArgs (top 59), defBody (top 59), defScope (top 59)⟩
theorem sc_coords_in : FnScope N_coords_in ["words"] (defScope (top 59)) := ⟨rfl, rfl, rfl, by decide +kernel, rfl, by decide +kernel, by decide +kernel⟩
theorem bp_coords_in : BindP (defArgs (top 59)) ["words"] := fun _ _ _ _ _ _ _ _ _ _ us hl => match us, hl with | [_], _ => rfl
def d_Drafts_u_init_u : DefA := ⟨atM "Drafts" "__init__", "__init__", "Drafts.__init__", defArgs (memS (top 61) 1), defBody (memS (top 61) 1), defScope (memS (top 61) 1)⟩
theorem sc_Drafts_u_init_u : FnScope N_Drafts_u_init_u ["self", "coords"] (defScope (memS (top 61) 1)) := ⟨rfl, rfl, rfl, by decide +kernel, rfl, by decide +kernel, by decide +kernel⟩
theorem bp_Drafts_u_init_u : BindP (defArgs (memS (top 61) 1)) ["self", "coords"] := fun _ _ _ _ _ _ _ _ _ _ us hl => match us, hl with | [_, _], _ => rfl
theorem bk1_Drafts_u_init_u : BindK (defArgs (memS (top 61) 1)) ["self", "coords"] 1 ["coords"] [0, 1] := fun _ _ _ _ _ _ _ _ _ _ us ws h1 h2 => match us, ws, h1, h2 with | [_], [_], _, _ => rfl
def d_common : DefA := ⟨atG "common", "common", "common", defArgs (top 9), defBody (top 9), defScope (top 9)⟩
theorem sc_common : FnScope N_common ["one", "other"] (defScope (top 9)) := ⟨rfl, rfl, rfl, by decide +kernel, rfl, by decide +kernel, by decide +kernel⟩
theorem bp_common : BindP (defArgs (top 9)) ["one", "other"] := fun _ _ _ _ _ _ _ _ _ _ us hl => match us, hl with | [_, _], _ => rfl
def d_is_ratio : DefA := ⟨atG "is_ratio", "is_ratio", "is_ratio", defArgs (top 21), defBody (top 21), defScope (top 21)⟩
theorem sc_is_ratio : FnScope N_is_ratio ["value"] (defScope (top 21)) := ⟨rfl, rfl, rfl, by decide +kernel, rfl, by decide +kernel, by decide +kernel⟩
theorem bp_is_ratio : BindP (defArgs (top 21)) ["value"] := fun _ _ _ _ _ _ _ _ _ _ us hl => match us, hl with | [_], _ => rfl
def d_ratio_in : DefA := ⟨atG "ratio_in", "ratio_in", "ratio_in", defArgs (top 25), defBody (top 25), defScope (top 25)⟩
theorem sc_ratio_in : FnScope N_ratio_in ["word"] (defScope (top 25)) := ⟨rfl, rfl, rfl, by decide +kernel, rfl, by decide +kernel, by decide +kernel⟩
theorem bp_ratio_in : BindP (defArgs (top 25)) ["word"] := fun _ _ _ _ _ _ _ _ _ _ us hl => match us, hl with | [_], _ => rfl
def d_is_number : DefA := ⟨atG "is_number", "is_number", "is_number", defArgs (top 37), defBody (top 37), defScope (top 37)⟩
theorem sc_is_number : FnScope N_is_number ["value"] (defScope (top 37)) := ⟨rfl, rfl, rfl, by decide +kernel, rfl, by decide +kernel, by decide +kernel⟩
theorem bp_is_number : BindP (defArgs (top 37)) ["value"] := fun _ _ _ _ _ _ _ _ _ _ us hl => match us, hl with | [_], _ => rfl
def d_numbers_in : DefA := ⟨atG "numbers_in", "numbers_in", "numbers_in", defArgs (top 60), defBody (top 60), defScope (top 60)⟩
theorem sc_numbers_in : FnScope N_numbers_in ["words", "many"] (defScope (top 60)) := ⟨rfl, rfl, rfl, by decide +kernel, rfl, by decide +kernel, by decide +kernel⟩
theorem bp_numbers_in : BindP (defArgs (top 60)) ["words", "many"] := fun _ _ _ _ _ _ _ _ _ _ us hl => match us, hl with | [_, _], _ => rfl
def d_is_name : DefA := ⟨atG "is_name", "is_name", "is_name", defArgs (top 36), defBody (top 36), defScope (top 36)⟩
theorem sc_is_name : FnScope N_is_name ["value"] (defScope (top 36)) := ⟨rfl, rfl, rfl, by decide +kernel, rfl, by decide +kernel, by decide +kernel⟩
theorem bp_is_name : BindP (defArgs (top 36)) ["value"] := fun _ _ _ _ _ _ _ _ _ _ us hl => match us, hl with | [_], _ => rfl
def d_Drafts_is_new : DefA := ⟨atM "Drafts" "is_new", "is_new", "Drafts.is_new", defArgs (memS (top 61) 3), defBody (memS (top 61) 3), defScope (memS (top 61) 3)⟩
theorem sc_Drafts_is_new : FnScope N_Drafts_is_new ["self", "name"] (defScope (memS (top 61) 3)) := ⟨rfl, rfl, rfl, by decide +kernel, rfl, by decide +kernel, by decide +kernel⟩
theorem bp_Drafts_is_new : BindP (defArgs (memS (top 61) 3)) ["self", "name"] := fun _ _ _ _ _ _ _ _ _ _ us hl => match us, hl with | [_, _], _ => rfl
def d_Drafts_put_peg : DefA := ⟨atM "Drafts" "put_peg", "put_peg", "Drafts.put_peg", defArgs (memS (top 61) 4), defBody (memS (top 61) 4), defScope (memS (top 61) 4)⟩
theorem sc_Drafts_put_peg : FnScope N_Drafts_put_peg ["self", "words"] (defScope (memS (top 61) 4)) := ⟨rfl, rfl, rfl, by decide +kernel, rfl, by decide +kernel, by decide +kernel⟩
theorem bp_Drafts_put_peg : BindP (defArgs (memS (top 61) 4)) ["self", "words"] := fun _ _ _ _ _ _ _ _ _ _ us hl => match us, hl with | [_, _], _ => rfl
def d_Drafts_put_ring : DefA := ⟨atM "Drafts" "put_ring", "put_ring", "Drafts.put_ring", defArgs (memS (top 61) 5), defBody (memS (top 61) 5), defScope (memS (top 61) 5)⟩
theorem sc_Drafts_put_ring : FnScope N_Drafts_put_ring ["self", "words"] (defScope (memS (top 61) 5)) := ⟨rfl, rfl, rfl, by decide +kernel, rfl, by decide +kernel, by decide +kernel⟩
theorem bp_Drafts_put_ring : BindP (defArgs (memS (top 61) 5)) ["self", "words"] := fun _ _ _ _ _ _ _ _ _ _ us hl => match us, hl with | [_, _], _ => rfl
def d_Drafts_place : DefA := ⟨atM "Drafts" "place", "place", "Drafts.place", defArgs (memS (top 61) 2), defBody (memS (top 61) 2), defScope (memS (top 61) 2)⟩
theorem sc_Drafts_place : FnScope N_Drafts_place ["self", "name"] (defScope (memS (top 61) 2)) := ⟨rfl, rfl, rfl, by decide +kernel, rfl, by decide +kernel, by decide +kernel⟩
theorem bp_Drafts_place : BindP (defArgs (memS (top 61) 2)) ["self", "name"] := fun _ _ _ _ _ _ _ _ _ _ us hl => match us, hl with | [_, _], _ => rfl
def d_Drafts_put_cord : DefA := ⟨atM "Drafts" "put_cord", "put_cord", "Drafts.put_cord", defArgs (memS (top 61) 6), defBody (memS (top 61) 6), defScope (memS (top 61) 6)⟩
theorem sc_Drafts_put_cord : FnScope N_Drafts_put_cord ["self", "words"] (defScope (memS (top 61) 6)) := ⟨rfl, rfl, rfl, by decide +kernel, rfl, by decide +kernel, by decide +kernel⟩
theorem bp_Drafts_put_cord : BindP (defArgs (memS (top 61) 6)) ["self", "words"] := fun _ _ _ _ _ _ _ _ _ _ us hl => match us, hl with | [_, _], _ => rfl
def d_Drafts_put : DefA := ⟨atM "Drafts" "put", "put", "Drafts.put", defArgs (memS (top 61) 7), defBody (memS (top 61) 7), defScope (memS (top 61) 7)⟩
theorem sc_Drafts_put : FnScope N_Drafts_put ["self", "words"] (defScope (memS (top 61) 7)) := ⟨rfl, rfl, rfl, by decide +kernel, rfl, by decide +kernel, by decide +kernel⟩
theorem bp_Drafts_put : BindP (defArgs (memS (top 61) 7)) ["self", "words"] := fun _ _ _ _ _ _ _ _ _ _ us hl => match us, hl with | [_, _], _ => rfl
def d_drafts_of : DefA := ⟨atG "drafts_of", "drafts_of", "drafts_of", defArgs (top 62), defBody (top 62), defScope (top 62)⟩
theorem sc_drafts_of : FnScope N_drafts_of ["text"] (defScope (top 62)) := ⟨rfl, rfl, rfl, by decide +kernel, rfl, by decide +kernel, by decide +kernel⟩
theorem bp_drafts_of : BindP (defArgs (top 62)) ["text"] := fun _ _ _ _ _ _ _ _ _ _ us hl => match us, hl with | [_], _ => rfl
def d_Net_u_init_u : DefA := ⟨atM "Net" "__init__", "__init__", "Net.__init__", defArgs (memS (top 63) 1), defBody (memS (top 63) 1), defScope (memS (top 63) 1)⟩
theorem sc_Net_u_init_u : FnScope N_Net_u_init_u ["self", "text"] (defScope (memS (top 63) 1)) := ⟨rfl, rfl, rfl, by decide +kernel, rfl, by decide +kernel, by decide +kernel⟩
theorem bp_Net_u_init_u : BindP (defArgs (memS (top 63) 1)) ["self", "text"] := fun _ _ _ _ _ _ _ _ _ _ us hl => match us, hl with | [_, _], _ => rfl
theorem bk1_Net_u_init_u : BindK (defArgs (memS (top 63) 1)) ["self", "text"] 1 ["text"] [0, 1] := fun _ _ _ _ _ _ _ _ _ _ us ws h1 h2 => match us, ws, h1, h2 with | [_], [_], _, _ => rfl
def d__law_text : DefA := ⟨atG "_law_text", "_law_text", "_law_text", defArgs (top 91), defBody (top 91), defScope (top 91)⟩
theorem sc__law_text : FnScope N__law_text ["names"] (defScope (top 91)) := ⟨rfl, rfl, rfl, by decide +kernel, rfl, by decide +kernel, by decide +kernel⟩
theorem bp__law_text : BindP (defArgs (top 91)) ["names"] := fun _ _ _ _ _ _ _ _ _ _ us hl => match us, hl with | [_], _ => rfl
def d_Net_u_len_u : DefA := ⟨atM "Net" "__len__", "__len__", "Net.__len__", defArgs (memS (top 63) 2), defBody (memS (top 63) 2), defScope (memS (top 63) 2)⟩
theorem sc_Net_u_len_u : FnScope N_Net_u_len_u ["self"] (defScope (memS (top 63) 2)) := ⟨rfl, rfl, rfl, by decide +kernel, rfl, by decide +kernel, by decide +kernel⟩
theorem bp_Net_u_len_u : BindP (defArgs (memS (top 63) 2)) ["self"] := fun _ _ _ _ _ _ _ _ _ _ us hl => match us, hl with | [_], _ => rfl
def d_Net_coords : DefA := ⟨atP "Net" "coords", "coords", "Net.coords", defArgs (memS (top 63) 5), defBody (memS (top 63) 5), defScope (memS (top 63) 5)⟩
theorem sc_Net_coords : FnScope N_Net_coords ["self"] (defScope (memS (top 63) 5)) := ⟨rfl, rfl, rfl, by decide +kernel, rfl, by decide +kernel, by decide +kernel⟩
theorem bp_Net_coords : BindP (defArgs (memS (top 63) 5)) ["self"] := fun _ _ _ _ _ _ _ _ _ _ us hl => match us, hl with | [_], _ => rfl
def d_Net_cords : DefA := ⟨atP "Net" "cords", "cords", "Net.cords", defArgs (memS (top 63) 8), defBody (memS (top 63) 8), defScope (memS (top 63) 8)⟩
theorem sc_Net_cords : FnScope N_Net_cords ["self"] (defScope (memS (top 63) 8)) := ⟨rfl, rfl, rfl, by decide +kernel, rfl, by decide +kernel, by decide +kernel⟩
theorem bp_Net_cords : BindP (defArgs (memS (top 63) 8)) ["self"] := fun _ _ _ _ _ _ _ _ _ _ us hl => match us, hl with | [_], _ => rfl
def d_Net_rings : DefA := ⟨atP "Net" "rings", "rings", "Net.rings", defArgs (memS (top 63) 7), defBody (memS (top 63) 7), defScope (memS (top 63) 7)⟩
theorem sc_Net_rings : FnScope N_Net_rings ["self"] (defScope (memS (top 63) 7)) := ⟨rfl, rfl, rfl, by decide +kernel, rfl, by decide +kernel, by decide +kernel⟩
theorem bp_Net_rings : BindP (defArgs (memS (top 63) 7)) ["self"] := fun _ _ _ _ _ _ _ _ _ _ us hl => match us, hl with | [_], _ => rfl
def d_Net_pegs : DefA := ⟨atP "Net" "pegs", "pegs", "Net.pegs", defArgs (memS (top 63) 6), defBody (memS (top 63) 6), defScope (memS (top 63) 6)⟩
theorem sc_Net_pegs : FnScope N_Net_pegs ["self"] (defScope (memS (top 63) 6)) := ⟨rfl, rfl, rfl, by decide +kernel, rfl, by decide +kernel, by decide +kernel⟩
theorem bp_Net_pegs : BindP (defArgs (memS (top 63) 6)) ["self"] := fun _ _ _ _ _ _ _ _ _ _ us hl => match us, hl with | [_], _ => rfl
def d_is_string : DefA := ⟨atG "is_string", "is_string", "is_string", defArgs (top 35), defBody (top 35), defScope (top 35)⟩
theorem sc_is_string : FnScope N_is_string ["value", "some"] (defScope (top 35)) := ⟨rfl, rfl, rfl, by decide +kernel, rfl, by decide +kernel, by decide +kernel⟩
theorem bp_is_string : BindP (defArgs (top 35)) ["value", "some"] := fun _ _ _ _ _ _ _ _ _ _ us hl => match us, hl with | [_, _], _ => rfl
def d_check_name : DefA := ⟨atG "check_name", "check_name", "check_name", defArgs (top 64), defBody (top 64), defScope (top 64)⟩
theorem sc_check_name : FnScope N_check_name ["net", "name"] (defScope (top 64)) := ⟨rfl, rfl, rfl, by decide +kernel, rfl, by decide +kernel, by decide +kernel⟩
theorem bp_check_name : BindP (defArgs (top 64)) ["net", "name"] := fun _ _ _ _ _ _ _ _ _ _ us hl => match us, hl with | [_, _], _ => rfl
def d_weight_of : DefA := ⟨atG "weight_of", "weight_of", "weight_of", defArgs (top 66), defBody (top 66), defScope (top 66)⟩
theorem sc_weight_of : FnScope N_weight_of ["net", "name"] (defScope (top 66)) := ⟨rfl, rfl, rfl, by decide +kernel, rfl, by decide +kernel, by decide +kernel⟩
theorem bp_weight_of : BindP (defArgs (top 66)) ["net", "name"] := fun _ _ _ _ _ _ _ _ _ _ us hl => match us, hl with | [_, _], _ => rfl
theorem bk_weight_of_0_name_net : BindK (defArgs (top 66)) ["net", "name"] 0 ["name", "net"] [1, 0] := fun _ _ _ _ _ _ _ _ _ _ us ws h1 h2 => match us, ws, h1, h2 with | [], [_, _], _, _ => rfl
def d_place_of : DefA := ⟨atG "place_of", "place_of", "place_of", defArgs (top 65), defBody (top 65), defScope (top 65)⟩
theorem sc_place_of : FnScope N_place_of ["net", "name"] (defScope (top 65)) := ⟨rfl, rfl, rfl, by decide +kernel, rfl, by decide +kernel, by decide +kernel⟩
theorem bp_place_of : BindP (defArgs (top 65)) ["net", "name"] := fun _ _ _ _ _ _ _ _ _ _ us hl => match us, hl with | [_, _], _ => rfl
theorem bk_place_of_0_name_net : BindK (defArgs (top 65)) ["net", "name"] 0 ["name", "net"] [1, 0] := fun _ _ _ _ _ _ _ _ _ _ us ws h1 h2 => match us, ws, h1, h2 with | [], [_, _], _, _ => rfl
def d_check_cord : DefA := ⟨atG "check_cord", "check_cord", "check_cord", defArgs (top 68), defBody (top 68), defScope (top 68)⟩
theorem sc_check_cord : FnScope N_check_cord ["net", "cord"] (defScope (top 68)) := ⟨rfl, rfl, rfl, by decide +kernel, rfl, by decide +kernel, by decide +kernel⟩
theorem bp_check_cord : BindP (defArgs (top 68)) ["net", "cord"] := fun _ _ _ _ _ _ _ _ _ _ us hl => match us, hl with | [_, _], _ => rfl
def d_ratio : DefA := ⟨atG "ratio", "ratio", "ratio", defArgs (top 10), defBody (top 10), defScope (top 10)⟩
theorem sc_ratio : FnScope N_ratio ["top", "bottom"] (defScope (top 10)) := ⟨rfl, rfl, rfl, by decide +kernel, rfl, by decide +kernel, by decide +kernel⟩
theorem bp_ratio : BindP (defArgs (top 10)) ["top", "bottom"] := fun _ _ _ _ _ _ _ _ _ _ us hl => match us, hl with | [_, _], _ => rfl
def d_plus : DefA := ⟨atG "plus", "plus", "plus", defArgs (top 11), defBody (top 11), defScope (top 11)⟩
theorem sc_plus : FnScope N_plus ["one", "other"] (defScope (top 11)) := ⟨rfl, rfl, rfl, by decide +kernel, rfl, by decide +kernel, by decide +kernel⟩
theorem bp_plus : BindP (defArgs (top 11)) ["one", "other"] := fun _ _ _ _ _ _ _ _ _ _ us hl => match us, hl with | [_, _], _ => rfl
def d_total : DefA := ⟨atG "total", "total", "total", defArgs (top 15), defBody (top 15), defScope (top 15)⟩
theorem sc_total : FnScope N_total ["ratios"] (defScope (top 15)) := ⟨rfl, rfl, rfl, by decide +kernel, rfl, by decide +kernel, by decide +kernel⟩
theorem bp_total : BindP (defArgs (top 15)) ["ratios"] := fun _ _ _ _ _ _ _ _ _ _ us hl => match us, hl with | [_], _ => rfl
def d_times : DefA := ⟨atG "times", "times", "times", defArgs (top 13), defBody (top 13), defScope (top 13)⟩
theorem sc_times : FnScope N_times ["one", "other"] (defScope (top 13)) := ⟨rfl, rfl, rfl, by decide +kernel, rfl, by decide +kernel, by decide +kernel⟩
theorem bp_times : BindP (defArgs (top 13)) ["one", "other"] := fun _ _ _ _ _ _ _ _ _ _ us hl => match us, hl with | [_, _], _ => rfl
def d_row_product : DefA := ⟨atG "row_product", "row_product", "row_product", defArgs (top 19), defBody (top 19), defScope (top 19)⟩
theorem sc_row_product : FnScope N_row_product ["one", "other"] (defScope (top 19)) := ⟨rfl, rfl, rfl, by decide +kernel, rfl, by decide +kernel, by decide +kernel⟩
theorem bp_row_product : BindP (defArgs (top 19)) ["one", "other"] := fun _ _ _ _ _ _ _ _ _ _ us hl => match us, hl with | [_, _], _ => rfl
def d_row_square : DefA := ⟨atG "row_square", "row_square", "row_square", defArgs (top 20), defBody (top 20), defScope (top 20)⟩
theorem sc_row_square : FnScope N_row_square ["row"] (defScope (top 20)) := ⟨rfl, rfl, rfl, by decide +kernel, rfl, by decide +kernel, by decide +kernel⟩
theorem bp_row_square : BindP (defArgs (top 20)) ["row"] := fun _ _ _ _ _ _ _ _ _ _ us hl => match us, hl with | [_], _ => rfl
def d_less : DefA := ⟨atG "less", "less", "less", defArgs (top 12), defBody (top 12), defScope (top 12)⟩
theorem sc_less : FnScope N_less ["one", "other"] (defScope (top 12)) := ⟨rfl, rfl, rfl, by decide +kernel, rfl, by decide +kernel, by decide +kernel⟩
theorem bp_less : BindP (defArgs (top 12)) ["one", "other"] := fun _ _ _ _ _ _ _ _ _ _ us hl => match us, hl with | [_, _], _ => rfl
def d_row_less : DefA := ⟨atG "row_less", "row_less", "row_less", defArgs (top 17), defBody (top 17), defScope (top 17)⟩
theorem sc_row_less : FnScope N_row_less ["one", "other"] (defScope (top 17)) := ⟨rfl, rfl, rfl, by decide +kernel, rfl, by decide +kernel, by decide +kernel⟩
theorem bp_row_less : BindP (defArgs (top 17)) ["one", "other"] := fun _ _ _ _ _ _ _ _ _ _ us hl => match us, hl with | [_, _], _ => rfl
def d_way_of : DefA := ⟨atG "way_of", "way_of", "way_of", defArgs (top 67), defBody (top 67), defScope (top 67)⟩
theorem sc_way_of : FnScope N_way_of ["net", "cord"] (defScope (top 67)) := ⟨rfl, rfl, rfl, by decide +kernel, rfl, by decide +kernel, by decide +kernel⟩
theorem bp_way_of : BindP (defArgs (top 67)) ["net", "cord"] := fun _ _ _ _ _ _ _ _ _ _ us hl => match us, hl with | [_, _], _ => rfl
def d_square_of : DefA := ⟨atG "square_of", "square_of", "square_of", defArgs (top 69), defBody (top 69), defScope (top 69)⟩
theorem sc_square_of : FnScope N_square_of ["net", "cord"] (defScope (top 69)) := ⟨rfl, rfl, rfl, by decide +kernel, rfl, by decide +kernel, by decide +kernel⟩
theorem bp_square_of : BindP (defArgs (top 69)) ["net", "cord"] := fun _ _ _ _ _ _ _ _ _ _ us hl => match us, hl with | [_, _], _ => rfl
theorem bk_square_of_0_cord_net : BindK (defArgs (top 69)) ["net", "cord"] 0 ["cord", "net"] [1, 0] := fun _ _ _ _ _ _ _ _ _ _ us ws h1 h2 => match us, ws, h1, h2 with | [], [_, _], _, _ => rfl
def d_cords_at : DefA := ⟨atG "cords_at", "cords_at", "cords_at", defArgs (top 70), defBody (top 70), defScope (top 70)⟩
theorem sc_cords_at : FnScope N_cords_at ["net", "name"] (defScope (top 70)) := ⟨rfl, rfl, rfl, by decide +kernel, rfl, by decide +kernel, by decide +kernel⟩
theorem bp_cords_at : BindP (defArgs (top 70)) ["net", "name"] := fun _ _ _ _ _ _ _ _ _ _ us hl => match us, hl with | [_, _], _ => rfl
theorem bk_cords_at_0_name_net : BindK (defArgs (top 70)) ["net", "name"] 0 ["name", "net"] [1, 0] := fun _ _ _ _ _ _ _ _ _ _ us ws h1 h2 => match us, ws, h1, h2 with | [], [_, _], _, _ => rfl
def d__law_are_names_right : DefA := ⟨atG "_law_are_names_right", "_law_are_names_right", "_law_are_names_right", defArgs (top 92), defBody (top 92), defScope (top 92)⟩
theorem sc__law_are_names_right : FnScope N__law_are_names_right ["net", "names"] (defScope (top 92)) := ⟨rfl, rfl, rfl, by decide +kernel, rfl, by decide +kernel, by decide +kernel⟩
theorem bp__law_are_names_right : BindP (defArgs (top 92)) ["net", "names"] := fun _ _ _ _ _ _ _ _ _ _ us hl => match us, hl with | [_, _], _ => rfl
def d_picture : DefA := ⟨atG "picture", "picture", "picture", defArgs (top 81), defBody (top 81), defScope (top 81)⟩
theorem sc_picture : FnScope N_picture ["net"] (defScope (top 81)) := ⟨rfl, rfl, rfl, by decide +kernel, rfl, by decide +kernel, by decide +kernel⟩
theorem bp_picture : BindP (defArgs (top 81)) ["net"] := fun _ _ _ _ _ _ _ _ _ _ us hl => match us, hl with | [_], _ => rfl
theorem bk_picture_0_net : BindK (defArgs (top 81)) ["net"] 0 ["net"] [0] := fun _ _ _ _ _ _ _ _ _ _ us ws h1 h2 => match us, ws, h1, h2 with | [], [_], _, _ => rfl
def d_is_tuple : DefA := ⟨atG "is_tuple", "is_tuple", "is_tuple", defArgs (top 34), defBody (top 34), defScope (top 34)⟩
theorem sc_is_tuple : FnScope N_is_tuple ["value", "low", "high"] (defScope (top 34)) := ⟨rfl, rfl, rfl, by decide +kernel, rfl, by decide +kernel, by decide +kernel⟩
theorem bp_is_tuple : BindP (defArgs (top 34)) ["value", "low", "high"] := fun _ _ _ _ _ _ _ _ _ _ us hl => match us, hl with | [_, _, _], _ => rfl
def d_is_row : DefA := ⟨atG "is_row", "is_row", "is_row", defArgs (top 23), defBody (top 23), defScope (top 23)⟩
theorem sc_is_row : FnScope N_is_row ["value", "low", "high"] (defScope (top 23)) := ⟨rfl, rfl, rfl, by decide +kernel, rfl, by decide +kernel, by decide +kernel⟩
theorem bp_is_row : BindP (defArgs (top 23)) ["value", "low", "high"] := fun _ _ _ _ _ _ _ _ _ _ us hl => match us, hl with | [_, _, _], _ => rfl
def d_are_rows : DefA := ⟨atG "are_rows", "are_rows", "are_rows", defArgs (top 78), defBody (top 78), defScope (top 78)⟩
theorem sc_are_rows : FnScope N_are_rows ["net", "value"] (defScope (top 78)) := ⟨rfl, rfl, rfl, by decide +kernel, rfl, by decide +kernel, by decide +kernel⟩
theorem bp_are_rows : BindP (defArgs (top 78)) ["net", "value"] := fun _ _ _ _ _ _ _ _ _ _ us hl => match us, hl with | [_, _], _ => rfl
def d_led_on : DefA := ⟨atG "led_on", "led_on", "led_on", defArgs (top 73), defBody (top 73), defScope (top 73)⟩
theorem sc_led_on : FnScope N_led_on ["row", "many"] (defScope (top 73)) := ⟨rfl, rfl, rfl, by decide +kernel, rfl, by decide +kernel, by decide +kernel⟩
theorem bp_led_on : BindP (defArgs (top 73)) ["row", "many"] := fun _ _ _ _ _ _ _ _ _ _ us hl => match us, hl with | [_, _], _ => rfl
def d_width_of : DefA := ⟨atG "width_of", "width_of", "width_of", defArgs (top 74), defBody (top 74), defScope (top 74)⟩
theorem sc_width_of : FnScope N_width_of ["net", "placement"] (defScope (top 74)) := ⟨rfl, rfl, rfl, by decide +kernel, rfl, by decide +kernel, by decide +kernel⟩
theorem bp_width_of : BindP (defArgs (top 74)) ["net", "placement"] := fun _ _ _ _ _ _ _ _ _ _ us hl => match us, hl with | [_, _], _ => rfl
def d_spot : DefA := ⟨atG "spot", "spot", "spot", defArgs (top 75), defBody (top 75), defScope (top 75)⟩
theorem sc_spot : FnScope N_spot ["net", "placement", "name"] (defScope (top 75)) := ⟨rfl, rfl, rfl, by decide +kernel, rfl, by decide +kernel, by decide +kernel⟩
theorem bp_spot : BindP (defArgs (top 75)) ["net", "placement", "name"] := fun _ _ _ _ _ _ _ _ _ _ us hl => match us, hl with | [_, _, _], _ => rfl
def d_square_apart : DefA := ⟨atG "square_apart", "square_apart", "square_apart", defArgs (top 76), defBody (top 76), defScope (top 76)⟩
theorem sc_square_apart : FnScope N_square_apart ["net", "placement", "one", "other"] (defScope (top 76)) := ⟨rfl, rfl, rfl, by decide +kernel, rfl, by decide +kernel, by decide +kernel⟩
theorem bp_square_apart : BindP (defArgs (top 76)) ["net", "placement", "one", "other"] := fun _ _ _ _ _ _ _ _ _ _ us hl => match us, hl with | [_, _, _, _], _ => rfl
def d_loose_by : DefA := ⟨atG "loose_by", "loose_by", "loose_by", defArgs (top 77), defBody (top 77), defScope (top 77)⟩
theorem sc_loose_by : FnScope N_loose_by ["net", "placement"] (defScope (top 77)) := ⟨rfl, rfl, rfl, by decide +kernel, rfl, by decide +kernel, by decide +kernel⟩
theorem bp_loose_by : BindP (defArgs (top 77)) ["net", "placement"] := fun _ _ _ _ _ _ _ _ _ _ us hl => match us, hl with | [_, _], _ => rfl
def d_is_below : DefA := ⟨atG "is_below", "is_below", "is_below", defArgs (top 14), defBody (top 14), defScope (top 14)⟩
theorem sc_is_below : FnScope N_is_below ["one", "other"] (defScope (top 14)) := ⟨rfl, rfl, rfl, by decide +kernel, rfl, by decide +kernel, by decide +kernel⟩
theorem bp_is_below : BindP (defArgs (top 14)) ["one", "other"] := fun _ _ _ _ _ _ _ _ _ _ us hl => match us, hl with | [_, _], _ => rfl
def d_is_placement : DefA := ⟨atG "is_placement", "is_placement", "is_placement", defArgs (top 79), defBody (top 79), defScope (top 79)⟩
theorem sc_is_placement : FnScope N_is_placement ["net", "value"] (defScope (top 79)) := ⟨rfl, rfl, rfl, by decide +kernel, rfl, by decide +kernel, by decide +kernel⟩
theorem bp_is_placement : BindP (defArgs (top 79)) ["net", "value"] := fun _ _ _ _ _ _ _ _ _ _ us hl => match us, hl with | [_, _], _ => rfl
theorem bk_is_placement_0_value_net : BindK (defArgs (top 79)) ["net", "value"] 0 ["value", "net"] [1, 0] := fun _ _ _ _ _ _ _ _ _ _ us ws h1 h2 => match us, ws, h1, h2 with | [], [_, _], _, _ => rfl
def d_check_placement : DefA := ⟨atG "check_placement", "check_placement", "check_placement", defArgs (top 80), defBody (top 80), defScope (top 80)⟩
theorem sc_check_placement : FnScope N_check_placement ["net", "placement"] (defScope (top 80)) := ⟨rfl, rfl, rfl, by decide +kernel, rfl, by decide +kernel, by decide +kernel⟩
theorem bp_check_placement : BindP (defArgs (top 80)) ["net", "placement"] := fun _ _ _ _ _ _ _ _ _ _ us hl => match us, hl with | [_, _], _ => rfl
def d_is_rate : DefA := ⟨atG "is_rate", "is_rate", "is_rate", defArgs (top 22), defBody (top 22), defScope (top 22)⟩
theorem sc_is_rate : FnScope N_is_rate ["value"] (defScope (top 22)) := ⟨rfl, rfl, rfl, by decide +kernel, rfl, by decide +kernel, by decide +kernel⟩
theorem bp_is_rate : BindP (defArgs (top 22)) ["value"] := fun _ _ _ _ _ _ _ _ _ _ us hl => match us, hl with | [_], _ => rfl
def d_row_plus : DefA := ⟨atG "row_plus", "row_plus", "row_plus", defArgs (top 16), defBody (top 16), defScope (top 16)⟩
theorem sc_row_plus : FnScope N_row_plus ["one", "other"] (defScope (top 16)) := ⟨rfl, rfl, rfl, by decide +kernel, rfl, by decide +kernel, by decide +kernel⟩
theorem bp_row_plus : BindP (defArgs (top 16)) ["one", "other"] := fun _ _ _ _ _ _ _ _ _ _ us hl => match us, hl with | [_, _], _ => rfl
def d_row_times : DefA := ⟨atG "row_times", "row_times", "row_times", defArgs (top 18), defBody (top 18), defScope (top 18)⟩
theorem sc_row_times : FnScope N_row_times ["row", "by"] (defScope (top 18)) := ⟨rfl, rfl, rfl, by decide +kernel, rfl, by decide +kernel, by decide +kernel⟩
theorem bp_row_times : BindP (defArgs (top 18)) ["row", "by"] := fun _ _ _ _ _ _ _ _ _ _ us hl => match us, hl with | [_, _], _ => rfl
def d_mixture : DefA := ⟨atG "mixture", "mixture", "mixture", defArgs (top 85), defBody (top 85), defScope (top 85)⟩
theorem sc_mixture : FnScope N_mixture ["net", "one", "other", "share"] (defScope (top 85)) := ⟨rfl, rfl, rfl, by decide +kernel, rfl, by decide +kernel, by decide +kernel⟩
theorem bp_mixture : BindP (defArgs (top 85)) ["net", "one", "other", "share"] := fun _ _ _ _ _ _ _ _ _ _ us hl => match us, hl with | [_, _, _, _], _ => rfl
theorem bk_mixture_0_share_other_one_net : BindK (defArgs (top 85)) ["net", "one", "other", "share"] 0 ["share", "other", "one", "net"] [3, 2, 1, 0] := fun _ _ _ _ _ _ _ _ _ _ us ws h1 h2 => match us, ws, h1, h2 with | [], [_, _, _, _], _, _ => rfl
def d_lets : DefA := ⟨atG "lets", "lets", "lets", defArgs (top 82), defBody (top 82), defScope (top 82)⟩
theorem sc_lets : FnScope N_lets ["net", "placement"] (defScope (top 82)) := ⟨rfl, rfl, rfl, by decide +kernel, rfl, by decide +kernel, by decide +kernel⟩
theorem bp_lets : BindP (defArgs (top 82)) ["net", "placement"] := fun _ _ _ _ _ _ _ _ _ _ us hl => match us, hl with | [_, _], _ => rfl
theorem bk_lets_0_placement_net : BindK (defArgs (top 82)) ["net", "placement"] 0 ["placement", "net"] [1, 0] := fun _ _ _ _ _ _ _ _ _ _ us ws h1 h2 => match us, ws, h1, h2 with | [], [_, _], _, _ => rfl
def d_score : DefA := ⟨atG "score", "score", "score", defArgs (top 83), defBody (top 83), defScope (top 83)⟩
theorem sc_score : FnScope N_score ["net", "placement"] (defScope (top 83)) := ⟨rfl, rfl, rfl, by decide +kernel, rfl, by decide +kernel, by decide +kernel⟩
theorem bp_score : BindP (defArgs (top 83)) ["net", "placement"] := fun _ _ _ _ _ _ _ _ _ _ us hl => match us, hl with | [_, _], _ => rfl
theorem bk_score_0_placement_net : BindK (defArgs (top 83)) ["net", "placement"] 0 ["placement", "net"] [1, 0] := fun _ _ _ _ _ _ _ _ _ _ us ws h1 h2 => match us, ws, h1, h2 with | [], [_, _], _, _ => rfl
def d_between : DefA := ⟨atG "between", "between", "between", defArgs (top 84), defBody (top 84), defScope (top 84)⟩
theorem sc_between : FnScope N_between ["net", "placement", "one", "other"] (defScope (top 84)) := ⟨rfl, rfl, rfl, by decide +kernel, rfl, by decide +kernel, by decide +kernel⟩
theorem bp_between : BindP (defArgs (top 84)) ["net", "placement", "one", "other"] := fun _ _ _ _ _ _ _ _ _ _ us hl => match us, hl with | [_, _, _, _], _ => rfl
theorem bk_between_0_other_one_placement_net : BindK (defArgs (top 84)) ["net", "placement", "one", "other"] 0 ["other", "one", "placement", "net"] [3, 2, 1, 0] := fun _ _ _ _ _ _ _ _ _ _ us ws h1 h2 => match us, ws, h1, h2 with | [], [_, _, _, _], _, _ => rfl
def d_are_moves : DefA := ⟨atG "are_moves", "are_moves", "are_moves", defArgs (top 38), defBody (top 38), defScope (top 38)⟩
theorem sc_are_moves : FnScope N_are_moves ["net", "value"] (defScope (top 38)) := ⟨rfl, rfl, rfl, by decide +kernel, rfl, by decide +kernel, by decide +kernel⟩
theorem bp_are_moves : BindP (defArgs (top 38)) ["net", "value"] := fun _ _ _ _ _ _ _ _ _ _ us hl => match us, hl with | [_, _], _ => rfl
def d_moved : DefA := ⟨atG "moved", "moved", "moved", defArgs (top 86), defBody (top 86), defScope (top 86)⟩
theorem sc_moved : FnScope N_moved ["net", "moves", "step"] (defScope (top 86)) := ⟨rfl, rfl, rfl, by decide +kernel, rfl, by decide +kernel, by decide +kernel⟩
theorem bp_moved : BindP (defArgs (top 86)) ["net", "moves", "step"] := fun _ _ _ _ _ _ _ _ _ _ us hl => match us, hl with | [_, _, _], _ => rfl
theorem bk_moved_0_step_moves_net : BindK (defArgs (top 86)) ["net", "moves", "step"] 0 ["step", "moves", "net"] [2, 1, 0] := fun _ _ _ _ _ _ _ _ _ _ us ws h1 h2 => match us, ws, h1, h2 with | [], [_, _, _], _, _ => rfl
def d__law_are_rows_right : DefA := ⟨atG "_law_are_rows_right", "_law_are_rows_right", "_law_are_rows_right", defArgs (top 93), defBody (top 93), defScope (top 93)⟩
theorem sc__law_are_rows_right : FnScope N__law_are_rows_right ["net", "names"] (defScope (top 93)) := ⟨rfl, rfl, rfl, by decide +kernel, rfl, by decide +kernel, by decide +kernel⟩
theorem bp__law_are_rows_right : BindP (defArgs (top 93)) ["net", "names"] := fun _ _ _ _ _ _ _ _ _ _ us hl => match us, hl with | [_, _], _ => rfl
def d__law_are_calls_right : DefA := ⟨atG "_law_are_calls_right", "_law_are_calls_right", "_law_are_calls_right", defArgs (top 94), defBody (top 94), defScope (top 94)⟩
theorem sc__law_are_calls_right : FnScope N__law_are_calls_right ["net", "names"] (defScope (top 94)) := ⟨rfl, rfl, rfl, by decide +kernel, rfl, by decide +kernel, by decide +kernel⟩
theorem bp__law_are_calls_right : BindP (defArgs (top 94)) ["net", "names"] := fun _ _ _ _ _ _ _ _ _ _ us hl => match us, hl with | [_, _], _ => rfl
def d__law_right : DefA := ⟨atG "_law_right", "_law_right", "_law_right", defArgs (top 95), defBody (top 95), defScope (top 95)⟩
theorem sc__law_right : FnScope N__law_right ["pot"] (defScope (top 95)) := ⟨rfl, rfl, rfl, by decide +kernel, rfl, by decide +kernel, by decide +kernel⟩
theorem bp__law_right : BindP (defArgs (top 95)) ["pot"] := fun _ _ _ _ _ _ _ _ _ _ us hl => match us, hl with | [_], _ => rfl
def d__law_pot : DefA := ⟨atG "_law_pot", "_law_pot", "_law_pot", defArgs (top 88), defBody (top 88), defScope (top 88)⟩
theorem sc__law_pot : FnScope N__law_pot ["script", "at"] (defScope (top 88)) := ⟨rfl, rfl, rfl, by decide +kernel, rfl, by decide +kernel, by decide +kernel⟩
theorem bp__law_pot : BindP (defArgs (top 88)) ["script", "at"] := fun _ _ _ _ _ _ _ _ _ _ us hl => match us, hl with | [_, _], _ => rfl
def d_law : DefA := ⟨atG "law", "law", "law", defArgs (top 96), defBody (top 96), defScope (top 96)⟩
theorem sc_law : FnScope N_law ["script"] (defScope (top 96)) := ⟨rfl, rfl, rfl, by decide +kernel, rfl, by decide +kernel, by decide +kernel⟩
theorem bp_law : BindP (defArgs (top 96)) ["script"] := fun _ _ _ _ _ _ _ _ _ _ us hl => match us, hl with | [_], _ => rfl
/-! ### facts -/
def cks0 : List Ck := [ckF "abs", ckF "all", ckF "any", ckF "bool", ckF "enumerate", ckF "int", ckF "isinstance", ckF "len", ckF "list", ckF "max", ckF "range", ckF "repr", ckF "str", ckF "sum", ckF "tuple", ckF "zip", ckC "BLANK" (.str " "), ckC "CORD" (.str "cord"), ckC "FEED" (.str "\n"), ckC "FIGURES" (.str "0123456789")]
def cks1 : List Ck := [ckC "MINUS" (.str "-"), ckC "MOST_BOTTOM" (.int 60), ckC "MOST_COORDS_nets" (.int 3), ckC "MOST_COORDS_placements" (.int 12), ckC "MOST_CORDS" (.int 20), ckC "MOST_FIGURES" (.int 4000), ckC "MOST_PEGS" (.int 16), ckC "MOST_RINGS" (.int 8), ckC "MOST_SIGNS" (.int 6), ckC "MOST_TOP" (.int 1000), ckC "NET" (.str "net"), ckT "NOUGHT" [(.int 0), (.int 1)], ckT "ONE" [(.int 1), (.int 1)], ckC "OVER" (.str "/"), ckC "PAIR_nets" (.int 2), ckC "PAIR_ratios" (.int 2), ckC "PEG" (.str "peg"), ckC "RING" (.str "ring"), ckC "SIGNS" (.str "abcdefghijklmnopqrstuvwxyz"), ckG "_law_take"]
def cks2 : List Ck := [ckG "_law_some", ckG "lines_of", ckG "whole_in", ckG "is_whole", ckG "is_integer", ckG "coords_in", ckG "common", ckG "is_ratio", ckG "ratio_in", ckG "is_number", ckG "numbers_in", ckG "is_name", ckG "drafts_of", ckG "_law_text", ckG "is_string", ckG "check_name", ckG "weight_of", ckG "place_of", ckG "check_cord", ckG "ratio"]
def cks3 : List Ck := [ckG "plus", ckG "total", ckG "times", ckG "row_product", ckG "row_square", ckG "less", ckG "row_less", ckG "way_of", ckG "square_of", ckG "cords_at", ckG "_law_are_names_right", ckG "picture", ckG "is_tuple", ckG "is_row", ckG "are_rows", ckG "led_on", ckG "width_of", ckG "spot", ckG "square_apart", ckG "loose_by"]
def cks4 : List Ck := [ckG "is_below", ckG "is_placement", ckG "check_placement", ckG "is_rate", ckG "row_plus", ckG "row_times", ckG "mixture", ckG "lets", ckG "score", ckG "between", ckG "are_moves", ckG "moved", ckG "_law_are_rows_right", ckG "_law_are_calls_right", ckG "_law_right", ckG "_law_pot", ckG "law", ckG "Drafts", ckS "Drafts", ckG "Net"]
def cks5 : List Ck := [ckS "Net", ckSl "Drafts" "own_coords" 0, ckSl "Drafts" "own_cords" 1, ckSl "Drafts" "own_pegs" 2, ckSl "Drafts" "own_rings" 3, ckSl "Net" "own_cords" 0, ckSl "Net" "own_drafts" 1, ckSl "Net" "own_kept" 2, ckSl "Net" "own_text" 3, ckN "Drafts", ckN "Net", ckM "Drafts" "__init__", ckM "Drafts" "is_new", ckM "Drafts" "put_peg", ckM "Drafts" "put_ring", ckM "Drafts" "place", ckM "Drafts" "put_cord", ckM "Drafts" "put", ckM "Net" "__init__", ckM "Net" "__len__"]
def cks6 : List Ck := [ckP "Net" "coords", ckP "Net" "cords", ckP "Net" "rings", ckP "Net" "pegs", ckL]
def cks : List Ck := cks0 ++ cks1 ++ cks2 ++ cks3 ++ cks4 ++ cks5 ++ cks6
def dfs0 : List DefA := [d__law_take, d__law_some, d_lines_of, d_whole_in, d_is_whole, d_is_integer, d_coords_in, d_Drafts_u_init_u, d_common, d_is_ratio, d_ratio_in, d_is_number, d_numbers_in, d_is_name, d_Drafts_is_new, d_Drafts_put_peg, d_Drafts_put_ring, d_Drafts_place, d_Drafts_put_cord, d_Drafts_put]
def dfs1 : List DefA := [d_drafts_of, d_Net_u_init_u, d__law_text, d_Net_u_len_u, d_Net_coords, d_Net_cords, d_Net_rings, d_Net_pegs, d_is_string, d_check_name, d_weight_of, d_place_of, d_check_cord, d_ratio, d_plus, d_total, d_times, d_row_product, d_row_square, d_less]
def dfs2 : List DefA := [d_row_less, d_way_of, d_square_of, d_cords_at, d__law_are_names_right, d_picture, d_is_tuple, d_is_row, d_are_rows, d_led_on, d_width_of, d_spot, d_square_apart, d_loose_by, d_is_below, d_is_placement, d_check_placement, d_is_rate, d_row_plus, d_row_times]
def dfs3 : List DefA := [d_mixture, d_lets, d_score, d_between, d_are_moves, d_moved, d__law_are_rows_right, d__law_are_calls_right, d__law_right, d__law_pot, d_law]
def dfs : List DefA := dfs0 ++ dfs1 ++ dfs2 ++ dfs3
end K13w
/-! The head of the law, printed by gen.py. -/
namespace K13w
open PySem PySem.Spec PyProof.Rows L2 AM K13
abbrev qv : Program := PySem.W.view R.prog [96]
def loose0 : List Str := ["OVER", "FIGURES", "MINUS", "PAIR_ratios", "NOUGHT", "ONE", "MOST_FIGURES", "is_whole", "common", "ratio", "plus", "less", "times", "is_below", "total", "row_plus", "row_less", "row_times", "row_product", "row_square", "is_ratio", "is_rate", "is_row", "whole_in", "ratio_in", "FEED", "BLANK", "SIGNS", "MOST_SIGNS", "MOST_TOP"]
def loose1 : List Str := ["MOST_BOTTOM", "is_integer", "is_tuple", "is_string", "is_name", "is_number", "are_moves", "lines_of", "RestError", "BadNet", "NoName", "NoCord", "BadPlacement", "BadShare", "BadMoves", "BadStep", "NET", "PEG", "RING", "CORD", "PAIR_nets", "MOST_COORDS_nets", "MOST_PEGS", "MOST_RINGS", "MOST_CORDS", "coords_in", "numbers_in", "Drafts", "drafts_of", "Net"]
def loose2 : List Str := ["check_name", "place_of", "weight_of", "way_of", "check_cord", "square_of", "cords_at", "MOST_COORDS_placements", "led_on", "width_of", "spot", "square_apart", "loose_by", "are_rows", "is_placement", "check_placement", "picture", "lets", "score", "between", "mixture", "moved", "_law_pot", "_law_take", "_law_some", "_law_text", "_law_are_names_right", "_law_are_rows_right", "_law_are_calls_right", "_law_right"]
def loose : List Str := loose0 ++ loose1 ++ loose2
abbrev hkA : PySem.W.Hook := hookE 5 cks dfs
def ob (s : PySem.W.SharedT) : He.AlD := obsEG 5 cks dfs (HandSHeadRun.getT s)
theorem ob_eq (s : PySem.W.SharedT) : ob s = hkA.obs s.abs := obsEG_eq (HandSHeadRun.getT_eq s)
noncomputable abbrev went (w : World) (os : OsState) : Option PySem.W.SharedT := HandSHeadRun.endF (HandSHeadRun.stepQ (HandSHeadRun.denQ HandSHeadRun.tabQ) R.prog w) 40000 R.prog w os
theorem runL (w : World) (os : OsState) : ((went w os).map fun s => HandSHeadRun.looksF R.prog (PySem.W.boot_heap w.params) s.abs) = some true := by
  kernel_rfl
theorem runS (w : World) (os : OsState) : ((went w os).map fun s => HandSHeadRun.seenQ qv loose (importedModules R.prog.main.body) (fun s => PySem.W.xlAt qv [] s && PySem.W.recOk R.toRowW.records s) s.abs) = some (PySem.W.openGood qv loose) := by
  kernel_rfl
theorem runO (w : World) (os : OsState) : ((went w os).map ob) = some (hkA.val w) := by
  kernel_rfl
theorem run (w : World) : HandSHeadRun.RunEq R qv hkA ob 40000 loose w := by
  intro os
  have l := runL w os
  have s := runS w os
  have o := runO w os
  show ((went w os).map fun s => (HandSHeadRun.looksF R.prog (PySem.W.boot_heap w.params) s.abs, HandSHeadRun.seenQ qv loose (importedModules R.prog.main.body) (fun s => PySem.W.xlAt qv [] s && PySem.W.recOk R.toRowW.records s) s.abs, ob s)) = some (true, PySem.W.openGood qv loose, hkA.val w)
  revert l s o
  generalize went w os = e
  intro l s o
  cases e with
  | none => cases l
  | some x =>
    have l := Option.some.inj l
    have s := Option.some.inj s
    have o := Option.some.inj o
    exact congrArg some (Prod.ext l (Prod.ext s o))
end K13w
/-! The walk's facts, printed by gen.py. -/
namespace K13w
open PySem PySem.Spec PyProof.Rows L2 AM K13
section
variable {w : World} {K : PySem.W.Frag} {mg : Str → Option Value} {base h : Heap}
theorem f_abs (c : SaysA cks dfs K) (Y : K.In h) (G : h.Ns mainGlobals mg) : mg "abs" = none := ckF_ok Y G (c.ck 0 (f := ckF "abs"))
theorem f_all (c : SaysA cks dfs K) (Y : K.In h) (G : h.Ns mainGlobals mg) : mg "all" = none := ckF_ok Y G (c.ck 1 (f := ckF "all"))
theorem f_any (c : SaysA cks dfs K) (Y : K.In h) (G : h.Ns mainGlobals mg) : mg "any" = none := ckF_ok Y G (c.ck 2 (f := ckF "any"))
theorem f_bool (c : SaysA cks dfs K) (Y : K.In h) (G : h.Ns mainGlobals mg) : mg "bool" = none := ckF_ok Y G (c.ck 3 (f := ckF "bool"))
theorem f_enumerate (c : SaysA cks dfs K) (Y : K.In h) (G : h.Ns mainGlobals mg) : mg "enumerate" = none := ckF_ok Y G (c.ck 4 (f := ckF "enumerate"))
theorem f_int (c : SaysA cks dfs K) (Y : K.In h) (G : h.Ns mainGlobals mg) : mg "int" = none := ckF_ok Y G (c.ck 5 (f := ckF "int"))
theorem f_isinstance (c : SaysA cks dfs K) (Y : K.In h) (G : h.Ns mainGlobals mg) : mg "isinstance" = none := ckF_ok Y G (c.ck 6 (f := ckF "isinstance"))
theorem f_len (c : SaysA cks dfs K) (Y : K.In h) (G : h.Ns mainGlobals mg) : mg "len" = none := ckF_ok Y G (c.ck 7 (f := ckF "len"))
theorem f_list (c : SaysA cks dfs K) (Y : K.In h) (G : h.Ns mainGlobals mg) : mg "list" = none := ckF_ok Y G (c.ck 8 (f := ckF "list"))
theorem f_max (c : SaysA cks dfs K) (Y : K.In h) (G : h.Ns mainGlobals mg) : mg "max" = none := ckF_ok Y G (c.ck 9 (f := ckF "max"))
theorem f_range (c : SaysA cks dfs K) (Y : K.In h) (G : h.Ns mainGlobals mg) : mg "range" = none := ckF_ok Y G (c.ck 10 (f := ckF "range"))
theorem f_repr (c : SaysA cks dfs K) (Y : K.In h) (G : h.Ns mainGlobals mg) : mg "repr" = none := ckF_ok Y G (c.ck 11 (f := ckF "repr"))
theorem f_str (c : SaysA cks dfs K) (Y : K.In h) (G : h.Ns mainGlobals mg) : mg "str" = none := ckF_ok Y G (c.ck 12 (f := ckF "str"))
theorem f_sum (c : SaysA cks dfs K) (Y : K.In h) (G : h.Ns mainGlobals mg) : mg "sum" = none := ckF_ok Y G (c.ck 13 (f := ckF "sum"))
theorem f_tuple (c : SaysA cks dfs K) (Y : K.In h) (G : h.Ns mainGlobals mg) : mg "tuple" = none := ckF_ok Y G (c.ck 14 (f := ckF "tuple"))
theorem f_zip (c : SaysA cks dfs K) (Y : K.In h) (G : h.Ns mainGlobals mg) : mg "zip" = none := ckF_ok Y G (c.ck 15 (f := ckF "zip"))
theorem g_BLANK (c : SaysA cks dfs K) (Y : K.In h) (G : h.Ns mainGlobals mg) : Glo K mg "BLANK" (.str " ") := ckC_ok Y G (c.ck 16 (f := ckC "BLANK" (.str " ")))
theorem g_CORD (c : SaysA cks dfs K) (Y : K.In h) (G : h.Ns mainGlobals mg) : Glo K mg "CORD" (.str "cord") := ckC_ok Y G (c.ck 17 (f := ckC "CORD" (.str "cord")))
theorem g_FEED (c : SaysA cks dfs K) (Y : K.In h) (G : h.Ns mainGlobals mg) : Glo K mg "FEED" (.str "\n") := ckC_ok Y G (c.ck 18 (f := ckC "FEED" (.str "\n")))
theorem g_FIGURES (c : SaysA cks dfs K) (Y : K.In h) (G : h.Ns mainGlobals mg) : Glo K mg "FIGURES" (.str "0123456789") := ckC_ok Y G (c.ck 19 (f := ckC "FIGURES" (.str "0123456789")))
theorem g_MINUS (c : SaysA cks dfs K) (Y : K.In h) (G : h.Ns mainGlobals mg) : Glo K mg "MINUS" (.str "-") := ckC_ok Y G (c.ck 20 (f := ckC "MINUS" (.str "-")))
theorem g_MOST_BOTTOM (c : SaysA cks dfs K) (Y : K.In h) (G : h.Ns mainGlobals mg) : Glo K mg "MOST_BOTTOM" (.int 60) := ckC_ok Y G (c.ck 21 (f := ckC "MOST_BOTTOM" (.int 60)))
theorem g_MOST_COORDS_nets (c : SaysA cks dfs K) (Y : K.In h) (G : h.Ns mainGlobals mg) : Glo K mg "MOST_COORDS_nets" (.int 3) := ckC_ok Y G (c.ck 22 (f := ckC "MOST_COORDS_nets" (.int 3)))
theorem g_MOST_COORDS_placements (c : SaysA cks dfs K) (Y : K.In h) (G : h.Ns mainGlobals mg) : Glo K mg "MOST_COORDS_placements" (.int 12) := ckC_ok Y G (c.ck 23 (f := ckC "MOST_COORDS_placements" (.int 12)))
theorem g_MOST_CORDS (c : SaysA cks dfs K) (Y : K.In h) (G : h.Ns mainGlobals mg) : Glo K mg "MOST_CORDS" (.int 20) := ckC_ok Y G (c.ck 24 (f := ckC "MOST_CORDS" (.int 20)))
theorem g_MOST_FIGURES (c : SaysA cks dfs K) (Y : K.In h) (G : h.Ns mainGlobals mg) : Glo K mg "MOST_FIGURES" (.int 4000) := ckC_ok Y G (c.ck 25 (f := ckC "MOST_FIGURES" (.int 4000)))
theorem g_MOST_PEGS (c : SaysA cks dfs K) (Y : K.In h) (G : h.Ns mainGlobals mg) : Glo K mg "MOST_PEGS" (.int 16) := ckC_ok Y G (c.ck 26 (f := ckC "MOST_PEGS" (.int 16)))
theorem g_MOST_RINGS (c : SaysA cks dfs K) (Y : K.In h) (G : h.Ns mainGlobals mg) : Glo K mg "MOST_RINGS" (.int 8) := ckC_ok Y G (c.ck 27 (f := ckC "MOST_RINGS" (.int 8)))
theorem g_MOST_SIGNS (c : SaysA cks dfs K) (Y : K.In h) (G : h.Ns mainGlobals mg) : Glo K mg "MOST_SIGNS" (.int 6) := ckC_ok Y G (c.ck 28 (f := ckC "MOST_SIGNS" (.int 6)))
theorem g_MOST_TOP (c : SaysA cks dfs K) (Y : K.In h) (G : h.Ns mainGlobals mg) : Glo K mg "MOST_TOP" (.int 1000) := ckC_ok Y G (c.ck 29 (f := ckC "MOST_TOP" (.int 1000)))
theorem g_NET (c : SaysA cks dfs K) (Y : K.In h) (G : h.Ns mainGlobals mg) : Glo K mg "NET" (.str "net") := ckC_ok Y G (c.ck 30 (f := ckC "NET" (.str "net")))
theorem g_NOUGHT (c : SaysA cks dfs K) (Y : K.In h) (G : h.Ns mainGlobals mg) : Glo K mg "NOUGHT" (.tup [(.int 0), (.int 1)]) := ckT_ok Y G (c.ck 31 (f := ckT "NOUGHT" [(.int 0), (.int 1)]))
theorem g_ONE (c : SaysA cks dfs K) (Y : K.In h) (G : h.Ns mainGlobals mg) : Glo K mg "ONE" (.tup [(.int 1), (.int 1)]) := ckT_ok Y G (c.ck 32 (f := ckT "ONE" [(.int 1), (.int 1)]))
theorem g_OVER (c : SaysA cks dfs K) (Y : K.In h) (G : h.Ns mainGlobals mg) : Glo K mg "OVER" (.str "/") := ckC_ok Y G (c.ck 33 (f := ckC "OVER" (.str "/")))
theorem g_PAIR_nets (c : SaysA cks dfs K) (Y : K.In h) (G : h.Ns mainGlobals mg) : Glo K mg "PAIR_nets" (.int 2) := ckC_ok Y G (c.ck 34 (f := ckC "PAIR_nets" (.int 2)))
theorem g_PAIR_ratios (c : SaysA cks dfs K) (Y : K.In h) (G : h.Ns mainGlobals mg) : Glo K mg "PAIR_ratios" (.int 2) := ckC_ok Y G (c.ck 35 (f := ckC "PAIR_ratios" (.int 2)))
theorem g_PEG (c : SaysA cks dfs K) (Y : K.In h) (G : h.Ns mainGlobals mg) : Glo K mg "PEG" (.str "peg") := ckC_ok Y G (c.ck 36 (f := ckC "PEG" (.str "peg")))
theorem g_RING (c : SaysA cks dfs K) (Y : K.In h) (G : h.Ns mainGlobals mg) : Glo K mg "RING" (.str "ring") := ckC_ok Y G (c.ck 37 (f := ckC "RING" (.str "ring")))
theorem g_SIGNS (c : SaysA cks dfs K) (Y : K.In h) (G : h.Ns mainGlobals mg) : Glo K mg "SIGNS" (.str "abcdefghijklmnopqrstuvwxyz") := ckC_ok Y G (c.ck 38 (f := ckC "SIGNS" (.str "abcdefghijklmnopqrstuvwxyz")))
theorem s_Drafts_own_coords (c : SaysA cks dfs K) : HasS K "Drafts" "own_coords" 0 := ckSl_ok (c.ck 98 (f := ckS "Drafts")) (c.ck 101 (f := ckSl "Drafts" "own_coords" 0))
theorem s_Drafts_own_cords (c : SaysA cks dfs K) : HasS K "Drafts" "own_cords" 1 := ckSl_ok (c.ck 98 (f := ckS "Drafts")) (c.ck 102 (f := ckSl "Drafts" "own_cords" 1))
theorem s_Drafts_own_pegs (c : SaysA cks dfs K) : HasS K "Drafts" "own_pegs" 2 := ckSl_ok (c.ck 98 (f := ckS "Drafts")) (c.ck 103 (f := ckSl "Drafts" "own_pegs" 2))
theorem s_Drafts_own_rings (c : SaysA cks dfs K) : HasS K "Drafts" "own_rings" 3 := ckSl_ok (c.ck 98 (f := ckS "Drafts")) (c.ck 104 (f := ckSl "Drafts" "own_rings" 3))
theorem s_Net_own_cords (c : SaysA cks dfs K) : HasS K "Net" "own_cords" 0 := ckSl_ok (c.ck 100 (f := ckS "Net")) (c.ck 105 (f := ckSl "Net" "own_cords" 0))
theorem s_Net_own_drafts (c : SaysA cks dfs K) : HasS K "Net" "own_drafts" 1 := ckSl_ok (c.ck 100 (f := ckS "Net")) (c.ck 106 (f := ckSl "Net" "own_drafts" 1))
theorem s_Net_own_kept (c : SaysA cks dfs K) : HasS K "Net" "own_kept" 2 := ckSl_ok (c.ck 100 (f := ckS "Net")) (c.ck 107 (f := ckSl "Net" "own_kept" 2))
theorem s_Net_own_text (c : SaysA cks dfs K) : HasS K "Net" "own_text" 3 := ckSl_ok (c.ck 100 (f := ckS "Net")) (c.ck 108 (f := ckSl "Net" "own_text" 3))
theorem fd__law_take (c : SaysA cks dfs K) : ∃ fd, FunD K "_law_take" "_law_take" (defArgs (top 89)) (defBody (top 89)) (defScope (top 89)) [] [] (atG "_law_take" K) fd := c.df 0 (d := d__law_take)
theorem wk__law_take (c : SaysA cks dfs K) (Y : K.In h) (G : h.Ns mainGlobals mg) {fd : FuncData} (F : FunD K "_law_take" "_law_take" (defArgs (top 89)) (defBody (top 89)) (defScope (top 89)) [] [] (atG "_law_take" K) fd) : FnG R.prog w K mg base 1 (atG "_law_take" K) fd ["pot", "upto"] (spOf K ["pot", "upto"].length m__law_take) :=
  fnG_mk (k := 0) F sc__law_take fun cdv A outer s H E hk tk po => by
  have nd := sc__law_take.nd
  unfold b__law_take
  exact (ws_cons (w_if (wt_cmp op_gt cs_int (w_ix hk (w_var 0) w_int) w_int) (ws_cons (w_asg (w_bin op_mod sn_mod (w_callTy cr_int sn_intc (f_int c Y G) rfl (wa_cons (w_ix hk (w_var 0) w_int) wa_nil)) (w_var 1)) (wg_name 2 nd))
    (ws_cons (w_asg (w_bin op_fdivW sn_div (w_ix hk (w_var 0) w_int) (w_var 1)) (wg_sub hk (w_var 0) w_int))
    (ws_one (w_ret (w_var 2))))) ws_nil)
    (ws_cons (w_asg (w_bin or_add (sn_add (b := false)) (w_ix hk (w_var 0) w_int) w_int) (wg_sub hk (w_var 0) w_int))
    (ws_cons (w_asg (w_ix hk (w_lst false (wa_cons w_int (wa_cons w_int (wa_cons w_int (wa_cons w_int (wa_cons w_int wa_nil)))))) (w_bin op_mod sn_mod (w_callTy cr_int sn_intc (f_int c Y G) rfl (wa_cons (w_ix hk (w_var 0) w_int) wa_nil)) w_int)) (wg_name 3 nd))
    (ws_cons (w_asg (w_bin op_mod sn_mod (w_callTy cr_int sn_intc (f_int c Y G) rfl (wa_cons (w_bin op_powW sn_pow (w_callTy cr_int sn_intc (f_int c Y G) rfl (wa_cons (w_bin or_add (sn_add (b := false)) (w_bin or_add (sn_add (b := false)) (w_ix hk (w_var 0) w_int) (w_bin or_mul sn_mul (w_bin or_mul sn_mul w_int (w_ix hk (w_var 0) w_int)) (w_ix hk (w_var 0) w_int))) w_int) wa_nil)) w_int) wa_nil)) (w_var 3)) (wg_name 4 nd))
    (ws_cons (w_asg (w_bin op_mod sn_mod (w_callTy cr_int sn_intc (f_int c Y G) rfl (wa_cons (w_bin or_mul sn_mul (w_var 4) (w_bin or_add (sn_add (b := false)) (w_bin op_mod sn_mod (w_callTy cr_int sn_intc (f_int c Y G) rfl (wa_cons (w_var 4) wa_nil)) w_int) (w_bin or_mul sn_mul w_int (w_ix hk (w_var 0) w_int)))) wa_nil)) w_int) (wg_name 4 nd))
    (ws_one (w_ret (w_bin op_mod sn_mod (w_callTy cr_int sn_intc (f_int c Y G) rfl (wa_cons (w_bin op_fdivW sn_div (w_var 4) w_int) wa_nil)) (w_var 1)))))))))
theorem has__law_take (c : SaysA cks dfs K) (Y : K.In h) (G : h.Ns mainGlobals mg) : Has R.prog w K mg base "_law_take" (defArgs (top 89)) ["pot", "upto"] 1 m__law_take := by
  obtain ⟨fd, F⟩ := fd__law_take c
  exact ⟨⟨_, fd, _, _, _, ckG_ok Y G (c.ck 39 (f := ckG "_law_take")), wk__law_take c Y G F, F⟩⟩
theorem fd__law_some (c : SaysA cks dfs K) : ∃ fd, FunD K "_law_some" "_law_some" (defArgs (top 90)) (defBody (top 90)) (defScope (top 90)) [] [] (atG "_law_some" K) fd := c.df 1 (d := d__law_some)
theorem wk__law_some (c : SaysA cks dfs K) (Y : K.In h) (G : h.Ns mainGlobals mg) {fd : FuncData} (F : FunD K "_law_some" "_law_some" (defArgs (top 90)) (defBody (top 90)) (defScope (top 90)) [] [] (atG "_law_some" K) fd) : FnG R.prog w K mg base 2 (atG "_law_some" K) fd ["pot", "pool", "many"] (spOf K ["pot", "pool", "many"].length m__law_some) :=
  fnG_mk (k := 1) F sc__law_some fun cdv A outer s H E hk tk po => by
  have nd := sc__law_some.nd
  unfold b__law_some
  exact (ws_cons (w_par rfl nd (wa_cons (w_callTy (cr_list rfl) (sn_list (b := true)) (f_list c Y G) rfl (wa_cons (w_var 1) wa_nil)) (wa_cons (w_lst true wa_nil) wa_nil)))
    (ws_cons (w_for po rfl (w_range1 (f_range c Y G) (wa_cons (w_var 2) wa_nil)) (wg_name 5 nd) (ws_one (w_expr (w_bm PySem.F.plainAttrs_list PySem.F.slot_list_append PySem.F.type_list_append mt_append sn_append (w_var 4) (wa_cons (w_bm PySem.F.plainAttrs_list PySem.F.slot_list_pop PySem.F.type_list_pop mt_popA sn_pop (w_var 3) (wa_cons (w_call (has__law_take c Y G) bp__law_take (hk.mono (by decide)) tk (wa_cons (w_var 0) (wa_cons (w_callB cr_len sn_len (f_len c Y G) rfl (wa_cons (w_var 3) wa_nil)) wa_nil))) wa_nil)) wa_nil)))))
    (ws_one (w_ret (w_var 4)))))
theorem has__law_some (c : SaysA cks dfs K) (Y : K.In h) (G : h.Ns mainGlobals mg) : Has R.prog w K mg base "_law_some" (defArgs (top 90)) ["pot", "pool", "many"] 2 m__law_some := by
  obtain ⟨fd, F⟩ := fd__law_some c
  exact ⟨⟨_, fd, _, _, _, ckG_ok Y G (c.ck 40 (f := ckG "_law_some")), wk__law_some c Y G F, F⟩⟩
theorem fd_lines_of (c : SaysA cks dfs K) : ∃ fd, FunD K "lines_of" "lines_of" (defArgs (top 39)) (defBody (top 39)) (defScope (top 39)) [] [] (atG "lines_of" K) fd := c.df 2 (d := d_lines_of)
theorem wk_lines_of (c : SaysA cks dfs K) (Y : K.In h) (G : h.Ns mainGlobals mg) {fd : FuncData} (F : FunD K "lines_of" "lines_of" (defArgs (top 39)) (defBody (top 39)) (defScope (top 39)) [] [] (atG "lines_of" K) fd) : FnG R.prog w K mg base 1 (atG "lines_of" K) fd ["text"] (spOf K ["text"].length m_lines_of) :=
  fnG_mk (k := 0) F sc_lines_of fun cdv A outer s H E hk tk po => by
  have nd := sc_lines_of.nd
  unfold b_lines_of
  exact (ws_one (w_ret (w_lc (own := [("line", 1)]) rfl nd (w_seq (w_split false (w_var 0) (w_glo (g_FEED c Y G)))) (blkOk_by (by kernel_rfl)) (fun _ _ _ _ _ => (wgw_name 1 nd)) (fun _ _ _ _ _ => wts_nil) (fun _ _ _ _ _ => (w_split false (w_var 1) (w_glo (g_BLANK c Y G)))))))
theorem has_lines_of (c : SaysA cks dfs K) (Y : K.In h) (G : h.Ns mainGlobals mg) : Has R.prog w K mg base "lines_of" (defArgs (top 39)) ["text"] 1 m_lines_of := by
  obtain ⟨fd, F⟩ := fd_lines_of c
  exact ⟨⟨_, fd, _, _, _, ckG_ok Y G (c.ck 41 (f := ckG "lines_of")), wk_lines_of c Y G F, F⟩⟩
theorem fd_whole_in (c : SaysA cks dfs K) : ∃ fd, FunD K "whole_in" "whole_in" (defArgs (top 24)) (defBody (top 24)) (defScope (top 24)) [] [] (atG "whole_in" K) fd := c.df 3 (d := d_whole_in)
theorem wk_whole_in (c : SaysA cks dfs K) (Y : K.In h) (G : h.Ns mainGlobals mg) {fd : FuncData} (F : FunD K "whole_in" "whole_in" (defArgs (top 24)) (defBody (top 24)) (defScope (top 24)) [] [] (atG "whole_in" K) fd) : FnG R.prog w K mg base 1 (atG "whole_in" K) fd ["word"] (spOf K ["word"].length m_whole_in) :=
  fnG_mk (k := 0) F sc_whole_in fun cdv A outer s H E hk tk po => by
  have nd := sc_whole_in.nd
  unfold b_whole_in
  exact (ws_cons (w_asg (w_ifE (wt_cmp (or_eq hk) cs_eq (w_slice false (w_var 0) wo_none (wo_some w_int)) (w_glo (g_MINUS c Y G))) (w_slice false (w_var 0) (wo_some w_int) wo_none) (w_var 0)) (wg_name 1 nd))
    (ws_cons (w_if (wt_or (wt_not (wt_chain op_le cs_int op_le cs_int w_int (w_callB cr_len sn_len (f_len c Y G) rfl (wa_cons (w_var 1) wa_nil)) (w_glo (g_MOST_FIGURES c Y G)))) (wt_or1 (wt_not (wt_truth (w_callB (cr_all rfl) sn_all (f_all c Y G) rfl (wa_cons (w_lc (own := [("sign", 2)]) rfl nd (w_seq (w_var 1)) (blkOk_by (by kernel_rfl)) (fun _ _ _ _ _ => (wgw_name 2 nd)) (fun _ _ _ _ _ => wts_nil) (fun _ _ _ _ _ => (w_cmp (or_in (Here.blk hk _ _ _ _ _)) cs_in (w_var 2) (w_glo (g_FIGURES c Y G))))) wa_nil)))))).pt (ws_one (w_ret w_non)) ws_nil)
    (ws_one (w_ret (w_ifE (wt_and (wt_cmp (or_eq hk) cs_eq (w_ix hk (w_var 1) w_int) w_str) (wt_and1 (wt_cmp (or_ne hk) cs_ne (w_var 0) w_str))).pt w_non (w_callTy cr_int sn_intc (f_int c Y G) rfl (wa_cons (w_var 0) wa_nil)))))))
theorem has_whole_in (c : SaysA cks dfs K) (Y : K.In h) (G : h.Ns mainGlobals mg) : Has R.prog w K mg base "whole_in" (defArgs (top 24)) ["word"] 1 m_whole_in := by
  obtain ⟨fd, F⟩ := fd_whole_in c
  exact ⟨⟨_, fd, _, _, _, ckG_ok Y G (c.ck 42 (f := ckG "whole_in")), wk_whole_in c Y G F, F⟩⟩
theorem fd_is_whole (c : SaysA cks dfs K) : ∃ fd, FunD K "is_whole" "is_whole" (defArgs (top 8)) (defBody (top 8)) (defScope (top 8)) [] [] (atG "is_whole" K) fd := c.df 4 (d := d_is_whole)
theorem wk_is_whole (c : SaysA cks dfs K) (Y : K.In h) (G : h.Ns mainGlobals mg) {fd : FuncData} (F : FunD K "is_whole" "is_whole" (defArgs (top 8)) (defBody (top 8)) (defScope (top 8)) [] [] (atG "is_whole" K) fd) : FnG R.prog w K mg base 1 (atG "is_whole" K) fd ["value"] (spOf K ["value"].length m_is_whole) :=
  fnG_mk (k := 0) F sc_is_whole fun cdv A outer s H E hk tk po => by
  have nd := sc_is_whole.nd
  unfold b_is_whole
  exact (ws_one (w_ret (w_and (w_isi (U := "int") (w_var 0) (by decide) (f_isinstance c Y G) (f_int c Y G)) (w_one (w_not (w_isi (U := "bool") (w_var 0) (by decide) (f_isinstance c Y G) (f_bool c Y G)))))))
theorem has_is_whole (c : SaysA cks dfs K) (Y : K.In h) (G : h.Ns mainGlobals mg) : Has R.prog w K mg base "is_whole" (defArgs (top 8)) ["value"] 1 m_is_whole := by
  obtain ⟨fd, F⟩ := fd_is_whole c
  exact ⟨⟨_, fd, _, _, _, ckG_ok Y G (c.ck 43 (f := ckG "is_whole")), wk_is_whole c Y G F, F⟩⟩
theorem fd_is_integer (c : SaysA cks dfs K) : ∃ fd, FunD K "is_integer" "is_integer" (defArgs (top 33)) (defBody (top 33)) (defScope (top 33)) [] [] (atG "is_integer" K) fd := c.df 5 (d := d_is_integer)
theorem wk_is_integer (c : SaysA cks dfs K) (Y : K.In h) (G : h.Ns mainGlobals mg) {fd : FuncData} (F : FunD K "is_integer" "is_integer" (defArgs (top 33)) (defBody (top 33)) (defScope (top 33)) [] [] (atG "is_integer" K) fd) : FnG R.prog w K mg base 2 (atG "is_integer" K) fd ["value", "low", "high"] (spOf K ["value", "low", "high"].length m_is_integer) :=
  fnG_mk (k := 1) F sc_is_integer fun cdv A outer s H E hk tk po => by
  have nd := sc_is_integer.nd
  unfold b_is_integer
  exact (ws_one (w_ret (w_and (w_call (has_is_whole c Y G) bp_is_whole (hk.mono (by decide)) tk (wa_cons (w_var 0) wa_nil)) (w_one (w_chain op_le cs_int op_le cs_int (w_var 1) (w_var 0) (w_var 2))))))
theorem has_is_integer (c : SaysA cks dfs K) (Y : K.In h) (G : h.Ns mainGlobals mg) : Has R.prog w K mg base "is_integer" (defArgs (top 33)) ["value", "low", "high"] 2 m_is_integer := by
  obtain ⟨fd, F⟩ := fd_is_integer c
  exact ⟨⟨_, fd, _, _, _, ckG_ok Y G (c.ck 44 (f := ckG "is_integer")), wk_is_integer c Y G F, F⟩⟩
theorem fd_coords_in (c : SaysA cks dfs K) : ∃ fd, FunD K "coords_in" "coords_in" (defArgs (top 59)) (defBody (top 59)) (defScope (top 59)) [] [] (atG "coords_in" K) fd := c.df 6 (d := d_coords_in)
theorem wk_coords_in (c : SaysA cks dfs K) (Y : K.In h) (G : h.Ns mainGlobals mg) {fd : FuncData} (F : FunD K "coords_in" "coords_in" (defArgs (top 59)) (defBody (top 59)) (defScope (top 59)) [] [] (atG "coords_in" K) fd) : FnG R.prog w K mg base 3 (atG "coords_in" K) fd ["words"] (spOf K ["words"].length m_coords_in) :=
  fnG_mk (k := 2) F sc_coords_in fun cdv A outer s H E hk tk po => by
  have nd := sc_coords_in.nd
  unfold b_coords_in
  exact (ws_cons (w_asg (w_ifE (wt_and (wt_cmp (or_eq hk) cs_eq (w_callB cr_len sn_len (f_len c Y G) rfl (wa_cons (w_var 0) wa_nil)) (w_glo (g_PAIR_nets c Y G))) (wt_and1 (wt_cmp (or_eq hk) cs_eq (w_ix hk (w_var 0) w_int) (w_glo (g_NET c Y G))))).pt (w_call (has_whole_in c Y G) bp_whole_in (hk.mono (by decide)) tk (wa_cons (w_ix hk (w_var 0) w_int) wa_nil)) w_non) (wg_name 1 nd))
    (ws_one (w_ret (w_ifE (wt_truth (w_call (has_is_integer c Y G) bp_is_integer (hk.mono (by decide)) tk (wa_cons (w_var 1) (wa_cons w_int (wa_cons (w_glo (g_MOST_COORDS_nets c Y G)) wa_nil))))) (w_var 1) w_non))))
theorem has_coords_in (c : SaysA cks dfs K) (Y : K.In h) (G : h.Ns mainGlobals mg) : Has R.prog w K mg base "coords_in" (defArgs (top 59)) ["words"] 3 m_coords_in := by
  obtain ⟨fd, F⟩ := fd_coords_in c
  exact ⟨⟨_, fd, _, _, _, ckG_ok Y G (c.ck 45 (f := ckG "coords_in")), wk_coords_in c Y G F, F⟩⟩
theorem fd_Drafts_u_init_u (c : SaysA cks dfs K) : ∃ fd, FunD K "__init__" "Drafts.__init__" (defArgs (memS (top 61) 1)) (defBody (memS (top 61) 1)) (defScope (memS (top 61) 1)) [] [] (atM "Drafts" "__init__" K) fd := c.df 7 (d := d_Drafts_u_init_u)
theorem wk_Drafts_u_init_u (c : SaysA cks dfs K) (Y : K.In h) (G : h.Ns mainGlobals mg) {fd : FuncData} (F : FunD K "__init__" "Drafts.__init__" (defArgs (memS (top 61) 1)) (defBody (memS (top 61) 1)) (defScope (memS (top 61) 1)) [] [] (atM "Drafts" "__init__" K) fd) : FnG R.prog w K mg base 1 (atM "Drafts" "__init__" K) fd ["self", "coords"] (spOf K ["self", "coords"].length m_Drafts_u_init_u) :=
  fnG_mk (k := 0) F sc_Drafts_u_init_u fun cdv A outer s H E hk tk po => by
  have nd := sc_Drafts_u_init_u.nd
  unfold b_Drafts_u_init_u
  exact (ws_cons (w_asg (w_var 1) (wg_slot (s_Drafts_own_coords c) (w_var 0)))
    (ws_one (w_asg (w_tup (wa_cons w_dict0 (wa_cons w_dict0 (wa_cons (w_lst true wa_nil) wa_nil)))) (wg_unp rfl (wgs_cons (wg_slot (s_Drafts_own_pegs c) (w_var 0)) (wgs_cons (wg_slot (s_Drafts_own_rings c) (w_var 0)) (wgs_cons (wg_slot (s_Drafts_own_cords c) (w_var 0)) wgs_nil)))))))
theorem has_Drafts_u_init_u (c : SaysA cks dfs K) (Y : K.In h) (G : h.Ns mainGlobals mg) : HasM R.prog w K mg base "Drafts" "__init__" (defArgs (memS (top 61) 1)) ["self", "coords"] 1 m_Drafts_u_init_u := by
  obtain ⟨fd, F⟩ := fd_Drafts_u_init_u c
  exact ⟨ckS_ok (c.ck 98 (f := ckS "Drafts")), ⟨_, fd, _, _, _, ckM_ok (c.ck 111 (f := ckM "Drafts" "__init__")), wk_Drafts_u_init_u c Y G F, F⟩⟩
theorem new_Drafts (c : SaysA cks dfs K) (Y : K.In h) (G : h.Ns mainGlobals mg) : HasC R.prog w K mg base "Drafts" (defArgs (memS (top 61) 1)) ["self", "coords"] 1 m_Drafts_u_init_u := by
  obtain ⟨fd, F⟩ := fd_Drafts_u_init_u c
  exact ⟨ckG_ok Y G (c.ck 97 (f := ckG "Drafts")), ⟨_, fd, _, _, _, ckN_ok (c.ck 109 (f := ckN "Drafts")), wk_Drafts_u_init_u c Y G F, F⟩⟩
theorem fd_common (c : SaysA cks dfs K) : ∃ fd, FunD K "common" "common" (defArgs (top 9)) (defBody (top 9)) (defScope (top 9)) [] [] (atG "common" K) fd := c.df 8 (d := d_common)
theorem wk_common (c : SaysA cks dfs K) (Y : K.In h) (G : h.Ns mainGlobals mg) {fd : FuncData} (F : FunD K "common" "common" (defArgs (top 9)) (defBody (top 9)) (defScope (top 9)) [] [] (atG "common" K) fd) : FnG R.prog w K mg base 1 (atG "common" K) fd ["one", "other"] (spOf K ["one", "other"].length m_common) :=
  fnG_mk (k := 0) F sc_common fun cdv A outer s H E hk tk po => by
  have nd := sc_common.nd
  unfold b_common
  exact (ws_cons (w_par rfl nd (wa_cons (w_callB call_abs sn_abs (f_abs c Y G) rfl (wa_cons (w_var 0) wa_nil)) (wa_cons (w_callB call_abs sn_abs (f_abs c Y G) rfl (wa_cons (w_var 1) wa_nil)) wa_nil)))
    (ws_cons (w_while po (wt_cmp op_gt cs_int (w_var 1) w_int) (ws_one (w_par rfl nd (wa_cons (w_var 1) (wa_cons (w_bin op_mod sn_mod (w_var 0) (w_var 1)) wa_nil)))))
    (ws_one (w_ret (w_var 0)))))
theorem has_common (c : SaysA cks dfs K) (Y : K.In h) (G : h.Ns mainGlobals mg) : Has R.prog w K mg base "common" (defArgs (top 9)) ["one", "other"] 1 m_common := by
  obtain ⟨fd, F⟩ := fd_common c
  exact ⟨⟨_, fd, _, _, _, ckG_ok Y G (c.ck 46 (f := ckG "common")), wk_common c Y G F, F⟩⟩
theorem fd_is_ratio (c : SaysA cks dfs K) : ∃ fd, FunD K "is_ratio" "is_ratio" (defArgs (top 21)) (defBody (top 21)) (defScope (top 21)) [] [] (atG "is_ratio" K) fd := c.df 9 (d := d_is_ratio)
theorem wk_is_ratio (c : SaysA cks dfs K) (Y : K.In h) (G : h.Ns mainGlobals mg) {fd : FuncData} (F : FunD K "is_ratio" "is_ratio" (defArgs (top 21)) (defBody (top 21)) (defScope (top 21)) [] [] (atG "is_ratio" K) fd) : FnG R.prog w K mg base 2 (atG "is_ratio" K) fd ["value"] (spOf K ["value"].length m_is_ratio) :=
  fnG_mk (k := 1) F sc_is_ratio fun cdv A outer s H E hk tk po => by
  have nd := sc_is_ratio.nd
  unfold b_is_ratio
  exact (ws_cons (w_if (wt_or (wt_not (wt_truth (w_isi (U := "tuple") (w_var 0) (by decide) (f_isinstance c Y G) (f_tuple c Y G)))) (wt_or (wt_cmp (or_ne hk) cs_ne (w_callB cr_len sn_len (f_len c Y G) rfl (wa_cons (w_var 0) wa_nil)) (w_glo (g_PAIR_ratios c Y G))) (wt_or1 (wt_not (wt_truth (w_callB (cr_all rfl) sn_all (f_all c Y G) rfl (wa_cons (w_lc (own := [("one", 1)]) rfl nd (w_seq (w_var 0)) (blkOk_by (by kernel_rfl)) (fun _ _ _ _ _ => (wgw_name 1 nd)) (fun _ _ _ _ _ => wts_nil) (fun _ _ _ _ _ => (w_call (has_is_whole c Y G) bp_is_whole ((Here.blk hk _ _ _ _ _).mono (by decide)) takes_none (wa_cons (w_var 1) wa_nil)))) wa_nil))))))).pt (ws_one (w_ret w_bl)) ws_nil)
    (ws_one (w_ret (w_and (w_cmp op_ge cs_int (w_ix hk (w_var 0) w_int) w_int) (w_one (w_cmp (or_eq hk) cs_eq (w_call (has_common c Y G) bp_common (hk.mono (by decide)) tk (wa_cons (w_ix hk (w_var 0) w_int) (wa_cons (w_ix hk (w_var 0) w_int) wa_nil))) w_int))))))
theorem has_is_ratio (c : SaysA cks dfs K) (Y : K.In h) (G : h.Ns mainGlobals mg) : Has R.prog w K mg base "is_ratio" (defArgs (top 21)) ["value"] 2 m_is_ratio := by
  obtain ⟨fd, F⟩ := fd_is_ratio c
  exact ⟨⟨_, fd, _, _, _, ckG_ok Y G (c.ck 47 (f := ckG "is_ratio")), wk_is_ratio c Y G F, F⟩⟩
theorem fd_ratio_in (c : SaysA cks dfs K) : ∃ fd, FunD K "ratio_in" "ratio_in" (defArgs (top 25)) (defBody (top 25)) (defScope (top 25)) [] [] (atG "ratio_in" K) fd := c.df 10 (d := d_ratio_in)
theorem wk_ratio_in (c : SaysA cks dfs K) (Y : K.In h) (G : h.Ns mainGlobals mg) {fd : FuncData} (F : FunD K "ratio_in" "ratio_in" (defArgs (top 25)) (defBody (top 25)) (defScope (top 25)) [] [] (atG "ratio_in" K) fd) : FnG R.prog w K mg base 3 (atG "ratio_in" K) fd ["word"] (spOf K ["word"].length m_ratio_in) :=
  fnG_mk (k := 2) F sc_ratio_in fun cdv A outer s H E hk tk po => by
  have nd := sc_ratio_in.nd
  unfold b_ratio_in
  exact (ws_cons (w_setLc (k := 1) (own := [("one", 3)]) rfl nd (w_seq (w_split false (w_var 0) (w_glo (g_OVER c Y G)))) (blkOk_by (by kernel_rfl)) (fun _ _ _ _ _ => (wgw_name 3 nd)) (fun _ _ _ _ _ => wts_nil) (fun _ _ _ _ _ => (w_call (has_whole_in c Y G) bp_whole_in ((Here.blk hk _ _ _ _ _).mono (by decide)) takes_none (wa_cons (w_var 3) wa_nil))))
    (ws_cons (w_if (wt_or (wt_cmp (or_in hk) cs_in w_non (w_var 1)) (wt_or1 (wt_cmp op_gt cs_int (w_callB cr_len sn_len (f_len c Y G) rfl (wa_cons (w_var 1) wa_nil)) (w_glo (g_PAIR_ratios c Y G))))).pt (ws_one (w_ret w_non)) ws_nil)
    (ws_cons (w_if (wt_cmp (or_eq hk) cs_eq (w_callB cr_len sn_len (f_len c Y G) rfl (wa_cons (w_var 1) wa_nil)) w_int) (ws_one (w_ret (w_tup (wa_cons (w_ix hk (w_var 1) w_int) (wa_cons w_int wa_nil))))) ws_nil)
    (ws_cons (w_asg (w_tup (wa_cons (w_ix hk (w_var 1) w_int) (wa_cons (w_ix hk (w_var 1) w_int) wa_nil))) (wg_name 2 nd))
    (ws_one (w_ret (w_ifE (wt_and (wt_cmp op_gt cs_int (w_ix hk (w_var 2) w_int) w_int) (wt_and1 (wt_truth (w_call (has_is_ratio c Y G) bp_is_ratio (hk.mono (by decide)) tk (wa_cons (w_var 2) wa_nil))))).pt (w_var 2) w_non)))))))
theorem has_ratio_in (c : SaysA cks dfs K) (Y : K.In h) (G : h.Ns mainGlobals mg) : Has R.prog w K mg base "ratio_in" (defArgs (top 25)) ["word"] 3 m_ratio_in := by
  obtain ⟨fd, F⟩ := fd_ratio_in c
  exact ⟨⟨_, fd, _, _, _, ckG_ok Y G (c.ck 48 (f := ckG "ratio_in")), wk_ratio_in c Y G F, F⟩⟩
theorem fd_is_number (c : SaysA cks dfs K) : ∃ fd, FunD K "is_number" "is_number" (defArgs (top 37)) (defBody (top 37)) (defScope (top 37)) [] [] (atG "is_number" K) fd := c.df 11 (d := d_is_number)
theorem wk_is_number (c : SaysA cks dfs K) (Y : K.In h) (G : h.Ns mainGlobals mg) {fd : FuncData} (F : FunD K "is_number" "is_number" (defArgs (top 37)) (defBody (top 37)) (defScope (top 37)) [] [] (atG "is_number" K) fd) : FnG R.prog w K mg base 3 (atG "is_number" K) fd ["value"] (spOf K ["value"].length m_is_number) :=
  fnG_mk (k := 2) F sc_is_number fun cdv A outer s H E hk tk po => by
  have nd := sc_is_number.nd
  unfold b_is_number
  exact (ws_one (w_ret (w_and (w_call (has_is_ratio c Y G) bp_is_ratio (hk.mono (by decide)) tk (wa_cons (w_var 0) wa_nil)) (w_and (w_cmp op_le cs_int (w_callB call_abs sn_abs (f_abs c Y G) rfl (wa_cons (w_ix hk (w_var 0) w_int) wa_nil)) (w_glo (g_MOST_TOP c Y G))) (w_one (w_cmp op_le cs_int (w_ix hk (w_var 0) w_int) (w_glo (g_MOST_BOTTOM c Y G))))))))
theorem has_is_number (c : SaysA cks dfs K) (Y : K.In h) (G : h.Ns mainGlobals mg) : Has R.prog w K mg base "is_number" (defArgs (top 37)) ["value"] 3 m_is_number := by
  obtain ⟨fd, F⟩ := fd_is_number c
  exact ⟨⟨_, fd, _, _, _, ckG_ok Y G (c.ck 49 (f := ckG "is_number")), wk_is_number c Y G F, F⟩⟩
theorem fd_numbers_in (c : SaysA cks dfs K) : ∃ fd, FunD K "numbers_in" "numbers_in" (defArgs (top 60)) (defBody (top 60)) (defScope (top 60)) [] [] (atG "numbers_in" K) fd := c.df 12 (d := d_numbers_in)
theorem wk_numbers_in (c : SaysA cks dfs K) (Y : K.In h) (G : h.Ns mainGlobals mg) {fd : FuncData} (F : FunD K "numbers_in" "numbers_in" (defArgs (top 60)) (defBody (top 60)) (defScope (top 60)) [] [] (atG "numbers_in" K) fd) : FnG R.prog w K mg base 4 (atG "numbers_in" K) fd ["words", "many"] (spOf K ["words", "many"].length m_numbers_in) :=
  fnG_mk (k := 3) F sc_numbers_in fun cdv A outer s H E hk tk po => by
  have nd := sc_numbers_in.nd
  unfold b_numbers_in
  exact (ws_cons (w_setLc (k := 2) (own := [("word", 3)]) rfl nd (w_seq (w_var 0)) (blkOk_by (by kernel_rfl)) (fun _ _ _ _ _ => (wgw_name 3 nd)) (fun _ _ _ _ _ => wts_nil) (fun _ _ _ _ _ => (w_call (has_ratio_in c Y G) bp_ratio_in ((Here.blk hk _ _ _ _ _).mono (by decide)) takes_none (wa_cons (w_var 3) wa_nil))))
    (ws_one (w_ret (w_ifE (wt_and (wt_cmp (or_eq hk) cs_eq (w_callB cr_len sn_len (f_len c Y G) rfl (wa_cons (w_var 2) wa_nil)) (w_var 1)) (wt_and1 (wt_truth (w_callB (cr_all rfl) sn_all (f_all c Y G) rfl (wa_cons (w_lc (own := [("one", 4)]) rfl nd (w_seq (w_var 2)) (blkOk_by (by kernel_rfl)) (fun _ _ _ _ _ => (wgw_name 4 nd)) (fun _ _ _ _ _ => wts_nil) (fun _ _ _ _ _ => (w_call (has_is_number c Y G) bp_is_number ((Here.blk hk _ _ _ _ _).mono (by decide)) takes_none (wa_cons (w_var 4) wa_nil)))) wa_nil))))).pt (w_callTy (cr_tup rfl) sn_tup (f_tuple c Y G) rfl (wa_cons (w_var 2) wa_nil)) w_non))))
theorem has_numbers_in (c : SaysA cks dfs K) (Y : K.In h) (G : h.Ns mainGlobals mg) : Has R.prog w K mg base "numbers_in" (defArgs (top 60)) ["words", "many"] 4 m_numbers_in := by
  obtain ⟨fd, F⟩ := fd_numbers_in c
  exact ⟨⟨_, fd, _, _, _, ckG_ok Y G (c.ck 50 (f := ckG "numbers_in")), wk_numbers_in c Y G F, F⟩⟩
theorem fd_is_name (c : SaysA cks dfs K) : ∃ fd, FunD K "is_name" "is_name" (defArgs (top 36)) (defBody (top 36)) (defScope (top 36)) [] [] (atG "is_name" K) fd := c.df 13 (d := d_is_name)
theorem wk_is_name (c : SaysA cks dfs K) (Y : K.In h) (G : h.Ns mainGlobals mg) {fd : FuncData} (F : FunD K "is_name" "is_name" (defArgs (top 36)) (defBody (top 36)) (defScope (top 36)) [] [] (atG "is_name" K) fd) : FnG R.prog w K mg base 1 (atG "is_name" K) fd ["value"] (spOf K ["value"].length m_is_name) :=
  fnG_mk (k := 0) F sc_is_name fun cdv A outer s H E hk tk po => by
  have nd := sc_is_name.nd
  unfold b_is_name
  exact (ws_one (w_ret (w_and (w_isi (U := "str") (w_var 0) (by decide) (f_isinstance c Y G) (f_str c Y G)) (w_and (w_chain op_le cs_int op_le cs_int w_int (w_callB cr_len sn_len (f_len c Y G) rfl (wa_cons (w_var 0) wa_nil)) (w_glo (g_MOST_SIGNS c Y G))) (w_one (w_callB (cr_all rfl) sn_all (f_all c Y G) rfl (wa_cons (w_lc (own := [("sign", 1)]) rfl nd (w_seq (w_var 0)) (blkOk_by (by kernel_rfl)) (fun _ _ _ _ _ => (wgw_name 1 nd)) (fun _ _ _ _ _ => wts_nil) (fun _ _ _ _ _ => (w_cmp (or_in (Here.blk hk _ _ _ _ _)) cs_in (w_var 1) (w_glo (g_SIGNS c Y G))))) wa_nil)))))))
theorem has_is_name (c : SaysA cks dfs K) (Y : K.In h) (G : h.Ns mainGlobals mg) : Has R.prog w K mg base "is_name" (defArgs (top 36)) ["value"] 1 m_is_name := by
  obtain ⟨fd, F⟩ := fd_is_name c
  exact ⟨⟨_, fd, _, _, _, ckG_ok Y G (c.ck 51 (f := ckG "is_name")), wk_is_name c Y G F, F⟩⟩
theorem fd_Drafts_is_new (c : SaysA cks dfs K) : ∃ fd, FunD K "is_new" "Drafts.is_new" (defArgs (memS (top 61) 3)) (defBody (memS (top 61) 3)) (defScope (memS (top 61) 3)) [] [] (atM "Drafts" "is_new" K) fd := c.df 14 (d := d_Drafts_is_new)
theorem wk_Drafts_is_new (c : SaysA cks dfs K) (Y : K.In h) (G : h.Ns mainGlobals mg) {fd : FuncData} (F : FunD K "is_new" "Drafts.is_new" (defArgs (memS (top 61) 3)) (defBody (memS (top 61) 3)) (defScope (memS (top 61) 3)) [] [] (atM "Drafts" "is_new" K) fd) : FnG R.prog w K mg base 2 (atM "Drafts" "is_new" K) fd ["self", "name"] (spOf K ["self", "name"].length m_Drafts_is_new) :=
  fnG_mk (k := 1) F sc_Drafts_is_new fun cdv A outer s H E hk tk po => by
  have nd := sc_Drafts_is_new.nd
  unfold b_Drafts_is_new
  exact (ws_one (w_ret (w_and (w_call (has_is_name c Y G) bp_is_name (hk.mono (by decide)) tk (wa_cons (w_var 1) wa_nil)) (w_and (w_cmp (or_notin hk) cs_notin (w_var 1) (w_slot (s_Drafts_own_pegs c) (w_var 0))) (w_one (w_cmp (or_notin hk) cs_notin (w_var 1) (w_slot (s_Drafts_own_rings c) (w_var 0))))))))
theorem has_Drafts_is_new (c : SaysA cks dfs K) (Y : K.In h) (G : h.Ns mainGlobals mg) : HasM R.prog w K mg base "Drafts" "is_new" (defArgs (memS (top 61) 3)) ["self", "name"] 2 m_Drafts_is_new := by
  obtain ⟨fd, F⟩ := fd_Drafts_is_new c
  exact ⟨ckS_ok (c.ck 98 (f := ckS "Drafts")), ⟨_, fd, _, _, _, ckM_ok (c.ck 112 (f := ckM "Drafts" "is_new")), wk_Drafts_is_new c Y G F, F⟩⟩
theorem fd_Drafts_put_peg (c : SaysA cks dfs K) : ∃ fd, FunD K "put_peg" "Drafts.put_peg" (defArgs (memS (top 61) 4)) (defBody (memS (top 61) 4)) (defScope (memS (top 61) 4)) [] [] (atM "Drafts" "put_peg" K) fd := c.df 15 (d := d_Drafts_put_peg)
theorem wk_Drafts_put_peg (c : SaysA cks dfs K) (Y : K.In h) (G : h.Ns mainGlobals mg) {fd : FuncData} (F : FunD K "put_peg" "Drafts.put_peg" (defArgs (memS (top 61) 4)) (defBody (memS (top 61) 4)) (defScope (memS (top 61) 4)) [] [] (atM "Drafts" "put_peg" K) fd) : FnG R.prog w K mg base 5 (atM "Drafts" "put_peg" K) fd ["self", "words"] (spOf K ["self", "words"].length m_Drafts_put_peg) :=
  fnG_mk (k := 4) F sc_Drafts_put_peg fun cdv A outer s H E hk tk po => by
  have nd := sc_Drafts_put_peg.nd
  unfold b_Drafts_put_peg
  exact (ws_cons (w_asg (w_call (has_numbers_in c Y G) bp_numbers_in (hk.mono (by decide)) tk (wa_cons (w_slice false (w_var 1) (wo_some (w_glo (g_PAIR_nets c Y G))) wo_none) (wa_cons (w_slot (s_Drafts_own_coords c) (w_var 0)) wa_nil))) (wg_name 2 nd))
    (ws_cons (w_if (wt_or (wt_cmp or_is cs_is (w_var 2) w_non) (wt_or (wt_not (wt_truth (w_meth (has_Drafts_is_new c Y G) bp_Drafts_is_new (hk.mono (by decide)) tk (w_var 0) (wa_cons (w_ix hk (w_var 1) w_int) wa_nil)))) (wt_or (wt_cmp (op_neD0 hk) cs_eqD0 (w_slot (s_Drafts_own_rings c) (w_var 0)) w_dict0) (wt_or1 (wt_cmp (or_ne hk) cs_ne (w_slot (s_Drafts_own_cords c) (w_var 0)) (w_lst false wa_nil)))))).pt (ws_one (w_ret w_bl)) ws_nil)
    (ws_cons (w_asg (w_var 2) (wg_sub hk (w_slot (s_Drafts_own_pegs c) (w_var 0)) (w_ix hk (w_var 1) w_int)))
    (ws_one (w_ret (w_cmp op_le cs_int (w_callB cr_len sn_len (f_len c Y G) rfl (wa_cons (w_slot (s_Drafts_own_pegs c) (w_var 0)) wa_nil)) (w_glo (g_MOST_PEGS c Y G))))))))
theorem has_Drafts_put_peg (c : SaysA cks dfs K) (Y : K.In h) (G : h.Ns mainGlobals mg) : HasM R.prog w K mg base "Drafts" "put_peg" (defArgs (memS (top 61) 4)) ["self", "words"] 5 m_Drafts_put_peg := by
  obtain ⟨fd, F⟩ := fd_Drafts_put_peg c
  exact ⟨ckS_ok (c.ck 98 (f := ckS "Drafts")), ⟨_, fd, _, _, _, ckM_ok (c.ck 113 (f := ckM "Drafts" "put_peg")), wk_Drafts_put_peg c Y G F, F⟩⟩
theorem fd_Drafts_put_ring (c : SaysA cks dfs K) : ∃ fd, FunD K "put_ring" "Drafts.put_ring" (defArgs (memS (top 61) 5)) (defBody (memS (top 61) 5)) (defScope (memS (top 61) 5)) [] [] (atM "Drafts" "put_ring" K) fd := c.df 16 (d := d_Drafts_put_ring)
theorem wk_Drafts_put_ring (c : SaysA cks dfs K) (Y : K.In h) (G : h.Ns mainGlobals mg) {fd : FuncData} (F : FunD K "put_ring" "Drafts.put_ring" (defArgs (memS (top 61) 5)) (defBody (memS (top 61) 5)) (defScope (memS (top 61) 5)) [] [] (atM "Drafts" "put_ring" K) fd) : FnG R.prog w K mg base 5 (atM "Drafts" "put_ring" K) fd ["self", "words"] (spOf K ["self", "words"].length m_Drafts_put_ring) :=
  fnG_mk (k := 4) F sc_Drafts_put_ring fun cdv A outer s H E hk tk po => by
  have nd := sc_Drafts_put_ring.nd
  unfold b_Drafts_put_ring
  exact (ws_cons (w_asg (w_call (has_numbers_in c Y G) bp_numbers_in (hk.mono (by decide)) tk (wa_cons (w_slice false (w_var 1) (wo_some (w_glo (g_PAIR_nets c Y G))) wo_none) (wa_cons (w_bin or_mul sn_mul (w_glo (g_PAIR_nets c Y G)) (w_slot (s_Drafts_own_coords c) (w_var 0))) wa_nil))) (wg_name 2 nd))
    (ws_cons (w_if (wt_or (wt_cmp or_is cs_is (w_var 2) w_non) (wt_or (wt_not (wt_truth (w_meth (has_Drafts_is_new c Y G) bp_Drafts_is_new (hk.mono (by decide)) tk (w_var 0) (wa_cons (w_ix hk (w_var 1) w_int) wa_nil)))) (wt_or (wt_cmp (op_eqD0 hk) cs_eqD0 (w_slot (s_Drafts_own_pegs c) (w_var 0)) w_dict0) (wt_or1 (wt_cmp (or_ne hk) cs_ne (w_slot (s_Drafts_own_cords c) (w_var 0)) (w_lst false wa_nil)))))).pt (ws_one (w_ret w_bl)) ws_nil)
    (ws_cons (w_asg (w_tup (wa_cons (w_slice false (w_var 2) wo_none (wo_some (w_slot (s_Drafts_own_coords c) (w_var 0)))) (wa_cons (w_slice false (w_var 2) (wo_some (w_slot (s_Drafts_own_coords c) (w_var 0))) wo_none) wa_nil))) (wg_sub hk (w_slot (s_Drafts_own_rings c) (w_var 0)) (w_ix hk (w_var 1) w_int)))
    (ws_one (w_ret (w_cmp op_le cs_int (w_callB cr_len sn_len (f_len c Y G) rfl (wa_cons (w_slot (s_Drafts_own_rings c) (w_var 0)) wa_nil)) (w_glo (g_MOST_RINGS c Y G))))))))
theorem has_Drafts_put_ring (c : SaysA cks dfs K) (Y : K.In h) (G : h.Ns mainGlobals mg) : HasM R.prog w K mg base "Drafts" "put_ring" (defArgs (memS (top 61) 5)) ["self", "words"] 5 m_Drafts_put_ring := by
  obtain ⟨fd, F⟩ := fd_Drafts_put_ring c
  exact ⟨ckS_ok (c.ck 98 (f := ckS "Drafts")), ⟨_, fd, _, _, _, ckM_ok (c.ck 114 (f := ckM "Drafts" "put_ring")), wk_Drafts_put_ring c Y G F, F⟩⟩
theorem fd_Drafts_place (c : SaysA cks dfs K) : ∃ fd, FunD K "place" "Drafts.place" (defArgs (memS (top 61) 2)) (defBody (memS (top 61) 2)) (defScope (memS (top 61) 2)) [] [] (atM "Drafts" "place" K) fd := c.df 17 (d := d_Drafts_place)
theorem wk_Drafts_place (c : SaysA cks dfs K) (Y : K.In h) (G : h.Ns mainGlobals mg) {fd : FuncData} (F : FunD K "place" "Drafts.place" (defArgs (memS (top 61) 2)) (defBody (memS (top 61) 2)) (defScope (memS (top 61) 2)) [] [] (atM "Drafts" "place" K) fd) : FnG R.prog w K mg base 1 (atM "Drafts" "place" K) fd ["self", "name"] (spOf K ["self", "name"].length m_Drafts_place) :=
  fnG_mk (k := 0) F sc_Drafts_place fun cdv A outer s H E hk tk po => by
  have nd := sc_Drafts_place.nd
  unfold b_Drafts_place
  exact (ws_one (w_ret (w_ifE (wt_cmp (or_in hk) cs_in (w_var 1) (w_slot (s_Drafts_own_pegs c) (w_var 0))) (w_ix hk (w_slot (s_Drafts_own_pegs c) (w_var 0)) (w_var 1)) (w_ix hk (w_ix hk (w_slot (s_Drafts_own_rings c) (w_var 0)) (w_var 1)) w_int))))
theorem has_Drafts_place (c : SaysA cks dfs K) (Y : K.In h) (G : h.Ns mainGlobals mg) : HasM R.prog w K mg base "Drafts" "place" (defArgs (memS (top 61) 2)) ["self", "name"] 1 m_Drafts_place := by
  obtain ⟨fd, F⟩ := fd_Drafts_place c
  exact ⟨ckS_ok (c.ck 98 (f := ckS "Drafts")), ⟨_, fd, _, _, _, ckM_ok (c.ck 115 (f := ckM "Drafts" "place")), wk_Drafts_place c Y G F, F⟩⟩
theorem fd_Drafts_put_cord (c : SaysA cks dfs K) : ∃ fd, FunD K "put_cord" "Drafts.put_cord" (defArgs (memS (top 61) 6)) (defBody (memS (top 61) 6)) (defScope (memS (top 61) 6)) [] [] (atM "Drafts" "put_cord" K) fd := c.df 18 (d := d_Drafts_put_cord)
theorem wk_Drafts_put_cord (c : SaysA cks dfs K) (Y : K.In h) (G : h.Ns mainGlobals mg) {fd : FuncData} (F : FunD K "put_cord" "Drafts.put_cord" (defArgs (memS (top 61) 6)) (defBody (memS (top 61) 6)) (defScope (memS (top 61) 6)) [] [] (atM "Drafts" "put_cord" K) fd) : FnG R.prog w K mg base 2 (atM "Drafts" "put_cord" K) fd ["self", "words"] (spOf K ["self", "words"].length m_Drafts_put_cord) :=
  fnG_mk (k := 1) F sc_Drafts_put_cord fun cdv A outer s H E hk tk po => by
  have nd := sc_Drafts_put_cord.nd
  unfold b_Drafts_put_cord
  exact (ws_cons (w_asg (w_callTy (cr_tup rfl) sn_tup (f_tuple c Y G) rfl (wa_cons (w_slice false (w_var 1) (wo_some w_int) wo_none) wa_nil)) (wg_name 2 nd))
    (ws_cons (w_if (wt_or (wt_cmp (or_ne hk) cs_ne (w_callB cr_len sn_len (f_len c Y G) rfl (wa_cons (w_var 2) wa_nil)) (w_glo (g_PAIR_nets c Y G))) (wt_or1 (wt_not (wt_truth (w_callB (cr_all rfl) sn_all (f_all c Y G) rfl (wa_cons (w_lc (own := [("end", 3)]) rfl nd (w_seq (w_var 2)) (blkOk_by (by kernel_rfl)) (fun _ _ _ _ _ => (wgw_name 3 nd)) (fun _ _ _ _ _ => wts_nil) (fun _ _ _ _ _ => (w_or (w_cmp (or_in (Here.blk hk _ _ _ _ _)) cs_in (w_var 3) (w_slot (s_Drafts_own_pegs c) (w_var 0))) (w_one (w_cmp (or_in (Here.blk hk _ _ _ _ _)) cs_in (w_var 3) (w_slot (s_Drafts_own_rings c) (w_var 0))))))) wa_nil)))))).pt (ws_one (w_ret w_bl)) ws_nil)
    (ws_cons (w_if (wt_or (wt_cmp (or_eq hk) cs_eq (w_meth (has_Drafts_place c Y G) bp_Drafts_place (hk.mono (by decide)) tk (w_var 0) (wa_cons (w_ix hk (w_var 2) w_int) wa_nil)) (w_meth (has_Drafts_place c Y G) bp_Drafts_place (hk.mono (by decide)) tk (w_var 0) (wa_cons (w_ix hk (w_var 2) w_int) wa_nil))) (wt_or1 (wt_not (wt_truth (w_callB (cr_any rfl) sn_any (f_any c Y G) rfl (wa_cons (w_lc (own := [("end", 3)]) rfl nd (w_seq (w_var 2)) (blkOk_by (by kernel_rfl)) (fun _ _ _ _ _ => (wgw_name 3 nd)) (fun _ _ _ _ _ => wts_nil) (fun _ _ _ _ _ => (w_cmp (or_in (Here.blk hk _ _ _ _ _)) cs_in (w_var 3) (w_slot (s_Drafts_own_rings c) (w_var 0))))) wa_nil)))))).pt (ws_one (w_ret w_bl)) ws_nil)
    (ws_cons (w_if (wt_or (wt_cmp (or_in hk) cs_in (w_var 2) (w_slot (s_Drafts_own_cords c) (w_var 0))) (wt_or1 (wt_cmp (or_in hk) cs_in (w_rev (w_var 2)) (w_slot (s_Drafts_own_cords c) (w_var 0))))).pt (ws_one (w_ret w_bl)) ws_nil)
    (ws_cons (w_expr (w_bm PySem.F.plainAttrs_list PySem.F.slot_list_append PySem.F.type_list_append mt_append sn_append (w_slot (s_Drafts_own_cords c) (w_var 0)) (wa_cons (w_var 2) wa_nil)))
    (ws_one (w_ret (w_cmp op_le cs_int (w_callB cr_len sn_len (f_len c Y G) rfl (wa_cons (w_slot (s_Drafts_own_cords c) (w_var 0)) wa_nil)) (w_glo (g_MOST_CORDS c Y G))))))))))
theorem has_Drafts_put_cord (c : SaysA cks dfs K) (Y : K.In h) (G : h.Ns mainGlobals mg) : HasM R.prog w K mg base "Drafts" "put_cord" (defArgs (memS (top 61) 6)) ["self", "words"] 2 m_Drafts_put_cord := by
  obtain ⟨fd, F⟩ := fd_Drafts_put_cord c
  exact ⟨ckS_ok (c.ck 98 (f := ckS "Drafts")), ⟨_, fd, _, _, _, ckM_ok (c.ck 116 (f := ckM "Drafts" "put_cord")), wk_Drafts_put_cord c Y G F, F⟩⟩
theorem fd_Drafts_put (c : SaysA cks dfs K) : ∃ fd, FunD K "put" "Drafts.put" (defArgs (memS (top 61) 7)) (defBody (memS (top 61) 7)) (defScope (memS (top 61) 7)) [] [] (atM "Drafts" "put" K) fd := c.df 19 (d := d_Drafts_put)
theorem wk_Drafts_put (c : SaysA cks dfs K) (Y : K.In h) (G : h.Ns mainGlobals mg) {fd : FuncData} (F : FunD K "put" "Drafts.put" (defArgs (memS (top 61) 7)) (defBody (memS (top 61) 7)) (defScope (memS (top 61) 7)) [] [] (atM "Drafts" "put" K) fd) : FnG R.prog w K mg base 6 (atM "Drafts" "put" K) fd ["self", "words"] (spOf K ["self", "words"].length m_Drafts_put) :=
  fnG_mk (k := 5) F sc_Drafts_put fun cdv A outer s H E hk tk po => by
  have nd := sc_Drafts_put.nd
  unfold b_Drafts_put
  exact (ws_cons (w_if (wt_cmp (or_eq hk) cs_eq (w_ix hk (w_var 1) w_int) (w_glo (g_PEG c Y G))) (ws_one (w_ret (w_and (w_cmp op_gt cs_int (w_callB cr_len sn_len (f_len c Y G) rfl (wa_cons (w_var 1) wa_nil)) w_int) (w_one (w_meth (has_Drafts_put_peg c Y G) bp_Drafts_put_peg (hk.mono (by decide)) tk (w_var 0) (wa_cons (w_var 1) wa_nil)))))) ws_nil)
    (ws_cons (w_if (wt_cmp (or_eq hk) cs_eq (w_ix hk (w_var 1) w_int) (w_glo (g_RING c Y G))) (ws_one (w_ret (w_and (w_cmp op_gt cs_int (w_callB cr_len sn_len (f_len c Y G) rfl (wa_cons (w_var 1) wa_nil)) w_int) (w_one (w_meth (has_Drafts_put_ring c Y G) bp_Drafts_put_ring (hk.mono (by decide)) tk (w_var 0) (wa_cons (w_var 1) wa_nil)))))) ws_nil)
    (ws_one (w_ret (w_and (w_cmp (or_eq hk) cs_eq (w_ix hk (w_var 1) w_int) (w_glo (g_CORD c Y G))) (w_one (w_meth (has_Drafts_put_cord c Y G) bp_Drafts_put_cord (hk.mono (by decide)) tk (w_var 0) (wa_cons (w_var 1) wa_nil))))))))
theorem has_Drafts_put (c : SaysA cks dfs K) (Y : K.In h) (G : h.Ns mainGlobals mg) : HasM R.prog w K mg base "Drafts" "put" (defArgs (memS (top 61) 7)) ["self", "words"] 6 m_Drafts_put := by
  obtain ⟨fd, F⟩ := fd_Drafts_put c
  exact ⟨ckS_ok (c.ck 98 (f := ckS "Drafts")), ⟨_, fd, _, _, _, ckM_ok (c.ck 117 (f := ckM "Drafts" "put")), wk_Drafts_put c Y G F, F⟩⟩
theorem fd_drafts_of (c : SaysA cks dfs K) : ∃ fd, FunD K "drafts_of" "drafts_of" (defArgs (top 62)) (defBody (top 62)) (defScope (top 62)) [] [] (atG "drafts_of" K) fd := c.df 20 (d := d_drafts_of)
theorem wk_drafts_of (c : SaysA cks dfs K) (Y : K.In h) (G : h.Ns mainGlobals mg) {fd : FuncData} (F : FunD K "drafts_of" "drafts_of" (defArgs (top 62)) (defBody (top 62)) (defScope (top 62)) [] [] (atG "drafts_of" K) fd) : FnG R.prog w K mg base 7 (atG "drafts_of" K) fd ["text"] (spOf K ["text"].length m_drafts_of) :=
  fnG_mk (k := 6) F sc_drafts_of fun cdv A outer s H E hk tk po => by
  have nd := sc_drafts_of.nd
  unfold b_drafts_of
  exact (ws_cons (w_asg (w_call (has_lines_of c Y G) bp_lines_of (hk.mono (by decide)) tk (wa_cons (w_var 0) wa_nil)) (wg_name 1 nd))
    (ws_cons (w_asg (w_call (has_coords_in c Y G) bp_coords_in (hk.mono (by decide)) tk (wa_cons (w_ix hk (w_var 1) w_int) wa_nil)) (wg_name 2 nd))
    (ws_cons (w_if (wt_cmp or_is cs_is (w_var 2) w_non) (ws_one w_never) ws_nil)
    (ws_cons (w_asg (w_new (new_Drafts c Y G) bp_Drafts_u_init_u (hk.mono (by decide)) tk (wa_cons (w_var 2) wa_nil)) (wg_name 3 nd))
    (ws_cons (w_for po rfl (w_enum (f_enumerate c Y G) (wa_cons (w_slice false (w_var 1) (wo_some w_int) wo_none) wa_nil)) (wg_tup rfl (wgs_cons (wg_name 4 nd) (wgs_cons (wg_name 5 nd) wgs_nil))) (ws_one (w_if (wt_not (wt_truth (w_meth (has_Drafts_put c Y G) bp_Drafts_put (hk.mono (by decide)) tk (w_var 3) (wa_cons (w_var 5) wa_nil)))) (ws_one w_never) ws_nil)))
    (ws_cons (w_if (wt_cmp (op_eqD0 hk) cs_eqD0 (w_slot (s_Drafts_own_pegs c) (w_var 3)) w_dict0) (ws_one w_never) ws_nil)
    (ws_one (w_ret (w_var 3)))))))))
theorem has_drafts_of (c : SaysA cks dfs K) (Y : K.In h) (G : h.Ns mainGlobals mg) : Has R.prog w K mg base "drafts_of" (defArgs (top 62)) ["text"] 7 m_drafts_of := by
  obtain ⟨fd, F⟩ := fd_drafts_of c
  exact ⟨⟨_, fd, _, _, _, ckG_ok Y G (c.ck 52 (f := ckG "drafts_of")), wk_drafts_of c Y G F, F⟩⟩
theorem fd_Net_u_init_u (c : SaysA cks dfs K) : ∃ fd, FunD K "__init__" "Net.__init__" (defArgs (memS (top 63) 1)) (defBody (memS (top 63) 1)) (defScope (memS (top 63) 1)) [] [] (atM "Net" "__init__" K) fd := c.df 21 (d := d_Net_u_init_u)
theorem wk_Net_u_init_u (c : SaysA cks dfs K) (Y : K.In h) (G : h.Ns mainGlobals mg) {fd : FuncData} (F : FunD K "__init__" "Net.__init__" (defArgs (memS (top 63) 1)) (defBody (memS (top 63) 1)) (defScope (memS (top 63) 1)) [] [] (atM "Net" "__init__" K) fd) : FnG R.prog w K mg base 8 (atM "Net" "__init__" K) fd ["self", "text"] (spOf K ["self", "text"].length m_Net_u_init_u) :=
  fnG_mk (k := 7) F sc_Net_u_init_u fun cdv A outer s H E hk tk po => by
  have nd := sc_Net_u_init_u.nd
  unfold b_Net_u_init_u
  exact (ws_cons (w_if (wt_not (wt_truth (w_isi (U := "str") (w_var 1) (by decide) (f_isinstance c Y G) (f_str c Y G)))) (ws_one w_never) ws_nil)
    (ws_cons (w_asg (w_tup (wa_cons (w_call (has_drafts_of c Y G) bp_drafts_of (hk.mono (by decide)) tk (wa_cons (w_var 1) wa_nil)) (wa_cons (w_var 1) wa_nil))) (wg_unp rfl (wgs_cons (wg_slot (s_Net_own_drafts c) (w_var 0)) (wgs_cons (wg_slot (s_Net_own_text c) (w_var 0)) wgs_nil))))
    (ws_one (w_asg (w_tup (wa_cons (w_callTy (cr_tup rfl) sn_tup (f_tuple c Y G) rfl (wa_cons (w_slot (s_Drafts_own_cords c) (w_slot (s_Net_own_drafts c) (w_var 0))) wa_nil)) (wa_cons w_dict0 wa_nil))) (wg_unp rfl (wgs_cons (wg_slot (s_Net_own_cords c) (w_var 0)) (wgs_cons (wg_slot (s_Net_own_kept c) (w_var 0)) wgs_nil)))))))
theorem has_Net_u_init_u (c : SaysA cks dfs K) (Y : K.In h) (G : h.Ns mainGlobals mg) : HasM R.prog w K mg base "Net" "__init__" (defArgs (memS (top 63) 1)) ["self", "text"] 8 m_Net_u_init_u := by
  obtain ⟨fd, F⟩ := fd_Net_u_init_u c
  exact ⟨ckS_ok (c.ck 100 (f := ckS "Net")), ⟨_, fd, _, _, _, ckM_ok (c.ck 118 (f := ckM "Net" "__init__")), wk_Net_u_init_u c Y G F, F⟩⟩
theorem new_Net (c : SaysA cks dfs K) (Y : K.In h) (G : h.Ns mainGlobals mg) : HasC R.prog w K mg base "Net" (defArgs (memS (top 63) 1)) ["self", "text"] 8 m_Net_u_init_u := by
  obtain ⟨fd, F⟩ := fd_Net_u_init_u c
  exact ⟨ckG_ok Y G (c.ck 99 (f := ckG "Net")), ⟨_, fd, _, _, _, ckN_ok (c.ck 110 (f := ckN "Net")), wk_Net_u_init_u c Y G F, F⟩⟩
theorem fd__law_text (c : SaysA cks dfs K) : ∃ fd, FunD K "_law_text" "_law_text" (defArgs (top 91)) (defBody (top 91)) (defScope (top 91)) [] [] (atG "_law_text" K) fd := c.df 22 (d := d__law_text)
theorem wk__law_text (c : SaysA cks dfs K) (Y : K.In h) (G : h.Ns mainGlobals mg) {fd : FuncData} (F : FunD K "_law_text" "_law_text" (defArgs (top 91)) (defBody (top 91)) (defScope (top 91)) [] [] (atG "_law_text" K) fd) : FnG R.prog w K mg base 1 (atG "_law_text" K) fd ["names"] (spOf K ["names"].length m__law_text) :=
  fnG_mk (k := 0) F sc__law_text fun cdv A outer s H E hk tk po => by
  have nd := sc__law_text.nd
  unfold b__law_text
  exact (ws_cons (w_asg (w_var 0) (wg_unp rfl (wgs_cons (wg_name 1 nd) (wgs_cons (wg_name 2 nd) (wgs_cons (wg_name 3 nd) (wgs_cons (wg_name 4 nd) wgs_nil))))))
    (ws_cons (w_asg (w_lst true (wa_cons w_str (wa_cons (w_bin or_add (sn_add (b := false)) (w_bin or_add (sn_add (b := false)) w_str (w_var 1)) w_str) (wa_cons (w_bin or_add (sn_add (b := false)) (w_bin or_add (sn_add (b := false)) w_str (w_var 2)) w_str) (wa_cons (w_bin or_add (sn_add (b := false)) (w_bin or_add (sn_add (b := false)) w_str (w_var 3)) w_str) (wa_cons (w_bin or_add (sn_add (b := false)) (w_bin or_add (sn_add (b := false)) w_str (w_var 4)) w_str) wa_nil)))))) (wg_name 5 nd))
    (ws_cons (w_expr (w_bm PySem.F.plainAttrs_list PySem.F.slot_list_extend PySem.F.type_list_extend mt_extend sn_extend (w_var 5) (wa_cons (w_lst false (wa_cons (w_bin or_add (sn_add (b := false)) (w_bin or_add (sn_add (b := false)) (w_bin or_add (sn_add (b := false)) w_str (w_var 1)) w_str) (w_var 3)) (wa_cons (w_bin or_add (sn_add (b := false)) (w_bin or_add (sn_add (b := false)) (w_bin or_add (sn_add (b := false)) w_str (w_var 3)) w_str) (w_var 2)) (wa_cons (w_bin or_add (sn_add (b := false)) (w_bin or_add (sn_add (b := false)) (w_bin or_add (sn_add (b := false)) w_str (w_var 4)) w_str) (w_var 3)) wa_nil)))) wa_nil)))
    (ws_one (w_ret (w_join w_str (w_var 5)))))))
theorem has__law_text (c : SaysA cks dfs K) (Y : K.In h) (G : h.Ns mainGlobals mg) : Has R.prog w K mg base "_law_text" (defArgs (top 91)) ["names"] 1 m__law_text := by
  obtain ⟨fd, F⟩ := fd__law_text c
  exact ⟨⟨_, fd, _, _, _, ckG_ok Y G (c.ck 53 (f := ckG "_law_text")), wk__law_text c Y G F, F⟩⟩
theorem fd_Net_u_len_u (c : SaysA cks dfs K) : ∃ fd, FunD K "__len__" "Net.__len__" (defArgs (memS (top 63) 2)) (defBody (memS (top 63) 2)) (defScope (memS (top 63) 2)) [] [] (atM "Net" "__len__" K) fd := c.df 23 (d := d_Net_u_len_u)
theorem wk_Net_u_len_u (c : SaysA cks dfs K) (Y : K.In h) (G : h.Ns mainGlobals mg) {fd : FuncData} (F : FunD K "__len__" "Net.__len__" (defArgs (memS (top 63) 2)) (defBody (memS (top 63) 2)) (defScope (memS (top 63) 2)) [] [] (atM "Net" "__len__" K) fd) : FnG R.prog w K mg base 1 (atM "Net" "__len__" K) fd ["self"] (spOf K ["self"].length m_Net_u_len_u) :=
  fnG_mk (k := 0) F sc_Net_u_len_u fun cdv A outer s H E hk tk po => by
  have nd := sc_Net_u_len_u.nd
  unfold b_Net_u_len_u
  exact (ws_one (w_ret (w_callB cr_len sn_len (f_len c Y G) rfl (wa_cons (w_slot (s_Drafts_own_rings c) (w_slot (s_Net_own_drafts c) (w_var 0))) wa_nil))))
theorem has_Net_u_len_u (c : SaysA cks dfs K) (Y : K.In h) (G : h.Ns mainGlobals mg) : HasM R.prog w K mg base "Net" "__len__" (defArgs (memS (top 63) 2)) ["self"] 1 m_Net_u_len_u := by
  obtain ⟨fd, F⟩ := fd_Net_u_len_u c
  exact ⟨ckS_ok (c.ck 100 (f := ckS "Net")), ⟨_, fd, _, _, _, ckM_ok (c.ck 119 (f := ckM "Net" "__len__")), wk_Net_u_len_u c Y G F, F⟩⟩
theorem fd_Net_coords (c : SaysA cks dfs K) : ∃ fd, FunD K "coords" "Net.coords" (defArgs (memS (top 63) 5)) (defBody (memS (top 63) 5)) (defScope (memS (top 63) 5)) [] [] (atP "Net" "coords" K) fd := c.df 24 (d := d_Net_coords)
theorem wk_Net_coords (c : SaysA cks dfs K) (Y : K.In h) (G : h.Ns mainGlobals mg) {fd : FuncData} (F : FunD K "coords" "Net.coords" (defArgs (memS (top 63) 5)) (defBody (memS (top 63) 5)) (defScope (memS (top 63) 5)) [] [] (atP "Net" "coords" K) fd) : FnG R.prog w K mg base 1 (atP "Net" "coords" K) fd ["self"] (spOf K ["self"].length m_Net_coords) :=
  fnG_mk (k := 0) F sc_Net_coords fun cdv A outer s H E hk tk po => by
  have nd := sc_Net_coords.nd
  unfold b_Net_coords
  exact (ws_one (w_ret (w_slot (s_Drafts_own_coords c) (w_slot (s_Net_own_drafts c) (w_var 0)))))
theorem has_Net_coords (c : SaysA cks dfs K) (Y : K.In h) (G : h.Ns mainGlobals mg) : HasP R.prog w K mg base "Net" "coords" (defArgs (memS (top 63) 5)) ["self"] 1 m_Net_coords := by
  obtain ⟨fd, F⟩ := fd_Net_coords c
  obtain ⟨p1, p2, p3, p4⟩ := ckP_ok (c.ck 120 (f := ckP "Net" "coords"))
  exact ⟨ckS_ok (c.ck 100 (f := ckS "Net")), ⟨_, _, fd, _, _, _, p1, p2, p3, p4, wk_Net_coords c Y G F, F⟩⟩
theorem fd_Net_cords (c : SaysA cks dfs K) : ∃ fd, FunD K "cords" "Net.cords" (defArgs (memS (top 63) 8)) (defBody (memS (top 63) 8)) (defScope (memS (top 63) 8)) [] [] (atP "Net" "cords" K) fd := c.df 25 (d := d_Net_cords)
theorem wk_Net_cords (c : SaysA cks dfs K) (Y : K.In h) (G : h.Ns mainGlobals mg) {fd : FuncData} (F : FunD K "cords" "Net.cords" (defArgs (memS (top 63) 8)) (defBody (memS (top 63) 8)) (defScope (memS (top 63) 8)) [] [] (atP "Net" "cords" K) fd) : FnG R.prog w K mg base 1 (atP "Net" "cords" K) fd ["self"] (spOf K ["self"].length m_Net_cords) :=
  fnG_mk (k := 0) F sc_Net_cords fun cdv A outer s H E hk tk po => by
  have nd := sc_Net_cords.nd
  unfold b_Net_cords
  exact (ws_one (w_ret (w_slot (s_Net_own_cords c) (w_var 0))))
theorem has_Net_cords (c : SaysA cks dfs K) (Y : K.In h) (G : h.Ns mainGlobals mg) : HasP R.prog w K mg base "Net" "cords" (defArgs (memS (top 63) 8)) ["self"] 1 m_Net_cords := by
  obtain ⟨fd, F⟩ := fd_Net_cords c
  obtain ⟨p1, p2, p3, p4⟩ := ckP_ok (c.ck 121 (f := ckP "Net" "cords"))
  exact ⟨ckS_ok (c.ck 100 (f := ckS "Net")), ⟨_, _, fd, _, _, _, p1, p2, p3, p4, wk_Net_cords c Y G F, F⟩⟩
theorem fd_Net_rings (c : SaysA cks dfs K) : ∃ fd, FunD K "rings" "Net.rings" (defArgs (memS (top 63) 7)) (defBody (memS (top 63) 7)) (defScope (memS (top 63) 7)) [] [] (atP "Net" "rings" K) fd := c.df 26 (d := d_Net_rings)
theorem wk_Net_rings (c : SaysA cks dfs K) (Y : K.In h) (G : h.Ns mainGlobals mg) {fd : FuncData} (F : FunD K "rings" "Net.rings" (defArgs (memS (top 63) 7)) (defBody (memS (top 63) 7)) (defScope (memS (top 63) 7)) [] [] (atP "Net" "rings" K) fd) : FnG R.prog w K mg base 1 (atP "Net" "rings" K) fd ["self"] (spOf K ["self"].length m_Net_rings) :=
  fnG_mk (k := 0) F sc_Net_rings fun cdv A outer s H E hk tk po => by
  have nd := sc_Net_rings.nd
  unfold b_Net_rings
  exact (ws_one (w_ret (w_callTy (cr_tup rfl) sn_tupD (f_tuple c Y G) rfl (wa_cons (w_slot (s_Drafts_own_rings c) (w_slot (s_Net_own_drafts c) (w_var 0))) wa_nil))))
theorem has_Net_rings (c : SaysA cks dfs K) (Y : K.In h) (G : h.Ns mainGlobals mg) : HasP R.prog w K mg base "Net" "rings" (defArgs (memS (top 63) 7)) ["self"] 1 m_Net_rings := by
  obtain ⟨fd, F⟩ := fd_Net_rings c
  obtain ⟨p1, p2, p3, p4⟩ := ckP_ok (c.ck 122 (f := ckP "Net" "rings"))
  exact ⟨ckS_ok (c.ck 100 (f := ckS "Net")), ⟨_, _, fd, _, _, _, p1, p2, p3, p4, wk_Net_rings c Y G F, F⟩⟩
theorem hasI_Net_rings (c : SaysA cks dfs K) (Y : K.In h) (G : h.Ns mainGlobals mg) : HasPI R.prog w K mg base "Net" "rings" (defArgs (memS (top 63) 7)) "self" 1 m_Net_rings := by
  obtain ⟨fd, F⟩ := fd_Net_rings c
  obtain ⟨p1, p2, p3, p4⟩ := ckP_ok (c.ck 122 (f := ckP "Net" "rings"))
  exact ⟨ckS_ok (c.ck 100 (f := ckS "Net")), ⟨_, _, fd, _, _, _, p1, p2, p3, p4, fnGI_mk (k := 0) F sc_Net_rings fun cdv A outer s H E hk tk => w_tupI rfl (f_tuple c Y G) (wa_cons (w_slot (s_Drafts_own_rings c) (w_slot (s_Net_own_drafts c) (w_var 0))) wa_nil), F⟩⟩
theorem fd_Net_pegs (c : SaysA cks dfs K) : ∃ fd, FunD K "pegs" "Net.pegs" (defArgs (memS (top 63) 6)) (defBody (memS (top 63) 6)) (defScope (memS (top 63) 6)) [] [] (atP "Net" "pegs" K) fd := c.df 27 (d := d_Net_pegs)
theorem wk_Net_pegs (c : SaysA cks dfs K) (Y : K.In h) (G : h.Ns mainGlobals mg) {fd : FuncData} (F : FunD K "pegs" "Net.pegs" (defArgs (memS (top 63) 6)) (defBody (memS (top 63) 6)) (defScope (memS (top 63) 6)) [] [] (atP "Net" "pegs" K) fd) : FnG R.prog w K mg base 1 (atP "Net" "pegs" K) fd ["self"] (spOf K ["self"].length m_Net_pegs) :=
  fnG_mk (k := 0) F sc_Net_pegs fun cdv A outer s H E hk tk po => by
  have nd := sc_Net_pegs.nd
  unfold b_Net_pegs
  exact (ws_one (w_ret (w_callTy (cr_tup rfl) sn_tup (f_tuple c Y G) rfl (wa_cons (w_slot (s_Drafts_own_pegs c) (w_slot (s_Net_own_drafts c) (w_var 0))) wa_nil))))
theorem has_Net_pegs (c : SaysA cks dfs K) (Y : K.In h) (G : h.Ns mainGlobals mg) : HasP R.prog w K mg base "Net" "pegs" (defArgs (memS (top 63) 6)) ["self"] 1 m_Net_pegs := by
  obtain ⟨fd, F⟩ := fd_Net_pegs c
  obtain ⟨p1, p2, p3, p4⟩ := ckP_ok (c.ck 123 (f := ckP "Net" "pegs"))
  exact ⟨ckS_ok (c.ck 100 (f := ckS "Net")), ⟨_, _, fd, _, _, _, p1, p2, p3, p4, wk_Net_pegs c Y G F, F⟩⟩
theorem fd_is_string (c : SaysA cks dfs K) : ∃ fd, FunD K "is_string" "is_string" (defArgs (top 35)) (defBody (top 35)) (defScope (top 35)) [] [] (atG "is_string" K) fd := c.df 28 (d := d_is_string)
theorem wk_is_string (c : SaysA cks dfs K) (Y : K.In h) (G : h.Ns mainGlobals mg) {fd : FuncData} (F : FunD K "is_string" "is_string" (defArgs (top 35)) (defBody (top 35)) (defScope (top 35)) [] [] (atG "is_string" K) fd) : FnG R.prog w K mg base 1 (atG "is_string" K) fd ["value", "some"] (spOf K ["value", "some"].length m_is_string) :=
  fnG_mk (k := 0) F sc_is_string fun cdv A outer s H E hk tk po => by
  have nd := sc_is_string.nd
  unfold b_is_string
  exact (ws_one (w_ret (w_and (w_isi (U := "str") (w_var 0) (by decide) (f_isinstance c Y G) (f_str c Y G)) (w_one (w_cmp (or_in hk) cs_in (w_var 0) (w_var 1))))))
theorem has_is_string (c : SaysA cks dfs K) (Y : K.In h) (G : h.Ns mainGlobals mg) : Has R.prog w K mg base "is_string" (defArgs (top 35)) ["value", "some"] 1 m_is_string := by
  obtain ⟨fd, F⟩ := fd_is_string c
  exact ⟨⟨_, fd, _, _, _, ckG_ok Y G (c.ck 54 (f := ckG "is_string")), wk_is_string c Y G F, F⟩⟩
theorem fd_check_name (c : SaysA cks dfs K) : ∃ fd, FunD K "check_name" "check_name" (defArgs (top 64)) (defBody (top 64)) (defScope (top 64)) [] [] (atG "check_name" K) fd := c.df 29 (d := d_check_name)
theorem wk_check_name (c : SaysA cks dfs K) (Y : K.In h) (G : h.Ns mainGlobals mg) {fd : FuncData} (F : FunD K "check_name" "check_name" (defArgs (top 64)) (defBody (top 64)) (defScope (top 64)) [] [] (atG "check_name" K) fd) : FnG R.prog w K mg base 3 (atG "check_name" K) fd ["net", "name"] (spOf K ["net", "name"].length m_check_name) :=
  fnG_mk (k := 2) F sc_check_name fun cdv A outer s H E hk tk po => by
  have nd := sc_check_name.nd
  unfold b_check_name
  exact (ws_one (w_if (wt_not (wt_truth (w_call (has_is_string c Y G) bp_is_string (hk.mono (by decide)) tk (wa_cons (w_var 1) (wa_cons (w_tup (wa_star (w_prop (has_Net_pegs c Y G) bp_Net_pegs (hk.mono (by decide)) (w_var 0)) (wa_star (w_prop (has_Net_rings c Y G) bp_Net_rings (hk.mono (by decide)) (w_var 0)) wa_nil))) wa_nil))))) (ws_one w_never) ws_nil))
theorem has_check_name (c : SaysA cks dfs K) (Y : K.In h) (G : h.Ns mainGlobals mg) : Has R.prog w K mg base "check_name" (defArgs (top 64)) ["net", "name"] 3 m_check_name := by
  obtain ⟨fd, F⟩ := fd_check_name c
  exact ⟨⟨_, fd, _, _, _, ckG_ok Y G (c.ck 55 (f := ckG "check_name")), wk_check_name c Y G F, F⟩⟩
theorem fd_weight_of (c : SaysA cks dfs K) : ∃ fd, FunD K "weight_of" "weight_of" (defArgs (top 66)) (defBody (top 66)) (defScope (top 66)) [] [] (atG "weight_of" K) fd := c.df 30 (d := d_weight_of)
theorem wk_weight_of (c : SaysA cks dfs K) (Y : K.In h) (G : h.Ns mainGlobals mg) {fd : FuncData} (F : FunD K "weight_of" "weight_of" (defArgs (top 66)) (defBody (top 66)) (defScope (top 66)) [] [] (atG "weight_of" K) fd) : FnG R.prog w K mg base 4 (atG "weight_of" K) fd ["net", "name"] (spOf K ["net", "name"].length m_weight_of) :=
  fnG_mk (k := 3) F sc_weight_of fun cdv A outer s H E hk tk po => by
  have nd := sc_weight_of.nd
  unfold b_weight_of
  exact (ws_cons (w_expr (w_call (has_check_name c Y G) bp_check_name (hk.mono (by decide)) tk (wa_cons (w_var 0) (wa_cons (w_var 1) wa_nil))))
    (ws_one (w_ret (w_ifE (wt_cmp (or_in hk) cs_in (w_var 1) (w_prop (has_Net_rings c Y G) bp_Net_rings (hk.mono (by decide)) (w_var 0))) (w_ix hk (w_ix hk (w_slot (s_Drafts_own_rings c) (w_slot (s_Net_own_drafts c) (w_var 0))) (w_var 1)) w_int) (w_bin or_mulB (sn_mulB (b := false)) (w_tup (wa_cons (w_glo (g_NOUGHT c Y G)) wa_nil)) (w_prop (has_Net_coords c Y G) bp_Net_coords (hk.mono (by decide)) (w_var 0)))))))
theorem has_weight_of (c : SaysA cks dfs K) (Y : K.In h) (G : h.Ns mainGlobals mg) : Has R.prog w K mg base "weight_of" (defArgs (top 66)) ["net", "name"] 4 m_weight_of := by
  obtain ⟨fd, F⟩ := fd_weight_of c
  exact ⟨⟨_, fd, _, _, _, ckG_ok Y G (c.ck 56 (f := ckG "weight_of")), wk_weight_of c Y G F, F⟩⟩
theorem fd_place_of (c : SaysA cks dfs K) : ∃ fd, FunD K "place_of" "place_of" (defArgs (top 65)) (defBody (top 65)) (defScope (top 65)) [] [] (atG "place_of" K) fd := c.df 31 (d := d_place_of)
theorem wk_place_of (c : SaysA cks dfs K) (Y : K.In h) (G : h.Ns mainGlobals mg) {fd : FuncData} (F : FunD K "place_of" "place_of" (defArgs (top 65)) (defBody (top 65)) (defScope (top 65)) [] [] (atG "place_of" K) fd) : FnG R.prog w K mg base 4 (atG "place_of" K) fd ["net", "name"] (spOf K ["net", "name"].length m_place_of) :=
  fnG_mk (k := 3) F sc_place_of fun cdv A outer s H E hk tk po => by
  have nd := sc_place_of.nd
  unfold b_place_of
  exact (ws_cons (w_expr (w_call (has_check_name c Y G) bp_check_name (hk.mono (by decide)) tk (wa_cons (w_var 0) (wa_cons (w_var 1) wa_nil))))
    (ws_one (w_ret (w_meth (has_Drafts_place c Y G) bp_Drafts_place (hk.mono (by decide)) tk (w_slot (s_Net_own_drafts c) (w_var 0)) (wa_cons (w_var 1) wa_nil)))))
theorem has_place_of (c : SaysA cks dfs K) (Y : K.In h) (G : h.Ns mainGlobals mg) : Has R.prog w K mg base "place_of" (defArgs (top 65)) ["net", "name"] 4 m_place_of := by
  obtain ⟨fd, F⟩ := fd_place_of c
  exact ⟨⟨_, fd, _, _, _, ckG_ok Y G (c.ck 57 (f := ckG "place_of")), wk_place_of c Y G F, F⟩⟩
theorem fd_check_cord (c : SaysA cks dfs K) : ∃ fd, FunD K "check_cord" "check_cord" (defArgs (top 68)) (defBody (top 68)) (defScope (top 68)) [] [] (atG "check_cord" K) fd := c.df 32 (d := d_check_cord)
theorem wk_check_cord (c : SaysA cks dfs K) (Y : K.In h) (G : h.Ns mainGlobals mg) {fd : FuncData} (F : FunD K "check_cord" "check_cord" (defArgs (top 68)) (defBody (top 68)) (defScope (top 68)) [] [] (atG "check_cord" K) fd) : FnG R.prog w K mg base 3 (atG "check_cord" K) fd ["net", "cord"] (spOf K ["net", "cord"].length m_check_cord) :=
  fnG_mk (k := 2) F sc_check_cord fun cdv A outer s H E hk tk po => by
  have nd := sc_check_cord.nd
  unfold b_check_cord
  exact (ws_one (w_if (wt_not (wt_truth (w_call (has_is_integer c Y G) bp_is_integer (hk.mono (by decide)) tk (wa_cons (w_var 1) (wa_cons w_int (wa_cons (w_bin op_sub sn_sub (w_callB cr_len sn_len (f_len c Y G) rfl (wa_cons (w_prop (has_Net_cords c Y G) bp_Net_cords (hk.mono (by decide)) (w_var 0)) wa_nil)) w_int) wa_nil)))))) (ws_one w_never) ws_nil))
theorem has_check_cord (c : SaysA cks dfs K) (Y : K.In h) (G : h.Ns mainGlobals mg) : Has R.prog w K mg base "check_cord" (defArgs (top 68)) ["net", "cord"] 3 m_check_cord := by
  obtain ⟨fd, F⟩ := fd_check_cord c
  exact ⟨⟨_, fd, _, _, _, ckG_ok Y G (c.ck 58 (f := ckG "check_cord")), wk_check_cord c Y G F, F⟩⟩
theorem fd_ratio (c : SaysA cks dfs K) : ∃ fd, FunD K "ratio" "ratio" (defArgs (top 10)) (defBody (top 10)) (defScope (top 10)) [] [] (atG "ratio" K) fd := c.df 33 (d := d_ratio)
theorem wk_ratio (c : SaysA cks dfs K) (Y : K.In h) (G : h.Ns mainGlobals mg) {fd : FuncData} (F : FunD K "ratio" "ratio" (defArgs (top 10)) (defBody (top 10)) (defScope (top 10)) [] [] (atG "ratio" K) fd) : FnG R.prog w K mg base 2 (atG "ratio" K) fd ["top", "bottom"] (spOf K ["top", "bottom"].length m_ratio) :=
  fnG_mk (k := 1) F sc_ratio fun cdv A outer s H E hk tk po => by
  have nd := sc_ratio.nd
  unfold b_ratio
  exact (ws_cons (w_asg (w_call (has_common c Y G) bp_common (hk.mono (by decide)) tk (wa_cons (w_var 0) (wa_cons (w_var 1) wa_nil))) (wg_name 2 nd))
    (ws_cons (w_asg (w_ifE (wt_cmp op_gt cs_int (w_var 1) w_int) (w_var 2) (w_bin op_sub sn_sub w_int (w_var 2))) (wg_name 2 nd))
    (ws_one (w_ret (w_tup (wa_cons (w_bin op_fdivW sn_div (w_var 0) (w_var 2)) (wa_cons (w_bin op_fdivW sn_div (w_var 1) (w_var 2)) wa_nil)))))))
theorem has_ratio (c : SaysA cks dfs K) (Y : K.In h) (G : h.Ns mainGlobals mg) : Has R.prog w K mg base "ratio" (defArgs (top 10)) ["top", "bottom"] 2 m_ratio := by
  obtain ⟨fd, F⟩ := fd_ratio c
  exact ⟨⟨_, fd, _, _, _, ckG_ok Y G (c.ck 59 (f := ckG "ratio")), wk_ratio c Y G F, F⟩⟩
theorem fd_plus (c : SaysA cks dfs K) : ∃ fd, FunD K "plus" "plus" (defArgs (top 11)) (defBody (top 11)) (defScope (top 11)) [] [] (atG "plus" K) fd := c.df 34 (d := d_plus)
theorem wk_plus (c : SaysA cks dfs K) (Y : K.In h) (G : h.Ns mainGlobals mg) {fd : FuncData} (F : FunD K "plus" "plus" (defArgs (top 11)) (defBody (top 11)) (defScope (top 11)) [] [] (atG "plus" K) fd) : FnG R.prog w K mg base 3 (atG "plus" K) fd ["one", "other"] (spOf K ["one", "other"].length m_plus) :=
  fnG_mk (k := 2) F sc_plus fun cdv A outer s H E hk tk po => by
  have nd := sc_plus.nd
  unfold b_plus
  exact (ws_one (w_ret (w_call (has_ratio c Y G) bp_ratio (hk.mono (by decide)) tk (wa_cons (w_bin or_add (sn_add (b := false)) (w_bin or_mul sn_mul (w_ix hk (w_var 0) w_int) (w_ix hk (w_var 1) w_int)) (w_bin or_mul sn_mul (w_ix hk (w_var 1) w_int) (w_ix hk (w_var 0) w_int))) (wa_cons (w_bin or_mul sn_mul (w_ix hk (w_var 0) w_int) (w_ix hk (w_var 1) w_int)) wa_nil)))))
theorem has_plus (c : SaysA cks dfs K) (Y : K.In h) (G : h.Ns mainGlobals mg) : Has R.prog w K mg base "plus" (defArgs (top 11)) ["one", "other"] 3 m_plus := by
  obtain ⟨fd, F⟩ := fd_plus c
  exact ⟨⟨_, fd, _, _, _, ckG_ok Y G (c.ck 60 (f := ckG "plus")), wk_plus c Y G F, F⟩⟩
theorem fd_total (c : SaysA cks dfs K) : ∃ fd, FunD K "total" "total" (defArgs (top 15)) (defBody (top 15)) (defScope (top 15)) [] [] (atG "total" K) fd := c.df 35 (d := d_total)
theorem wk_total (c : SaysA cks dfs K) (Y : K.In h) (G : h.Ns mainGlobals mg) {fd : FuncData} (F : FunD K "total" "total" (defArgs (top 15)) (defBody (top 15)) (defScope (top 15)) [] [] (atG "total" K) fd) : FnG R.prog w K mg base 4 (atG "total" K) fd ["ratios"] (spOf K ["ratios"].length m_total) :=
  fnG_mk (k := 3) F sc_total fun cdv A outer s H E hk tk po => by
  have nd := sc_total.nd
  unfold b_total
  exact (ws_cons (w_asg (w_glo (g_NOUGHT c Y G)) (wg_name 1 nd))
    (ws_cons (w_for po rfl (w_seq (w_var 0)) (wg_name 2 nd) (ws_one (w_asg (w_call (has_plus c Y G) bp_plus (hk.mono (by decide)) tk (wa_cons (w_var 1) (wa_cons (w_var 2) wa_nil))) (wg_name 1 nd))))
    (ws_one (w_ret (w_var 1)))))
theorem has_total (c : SaysA cks dfs K) (Y : K.In h) (G : h.Ns mainGlobals mg) : Has R.prog w K mg base "total" (defArgs (top 15)) ["ratios"] 4 m_total := by
  obtain ⟨fd, F⟩ := fd_total c
  exact ⟨⟨_, fd, _, _, _, ckG_ok Y G (c.ck 61 (f := ckG "total")), wk_total c Y G F, F⟩⟩
theorem fd_times (c : SaysA cks dfs K) : ∃ fd, FunD K "times" "times" (defArgs (top 13)) (defBody (top 13)) (defScope (top 13)) [] [] (atG "times" K) fd := c.df 36 (d := d_times)
theorem wk_times (c : SaysA cks dfs K) (Y : K.In h) (G : h.Ns mainGlobals mg) {fd : FuncData} (F : FunD K "times" "times" (defArgs (top 13)) (defBody (top 13)) (defScope (top 13)) [] [] (atG "times" K) fd) : FnG R.prog w K mg base 3 (atG "times" K) fd ["one", "other"] (spOf K ["one", "other"].length m_times) :=
  fnG_mk (k := 2) F sc_times fun cdv A outer s H E hk tk po => by
  have nd := sc_times.nd
  unfold b_times
  exact (ws_one (w_ret (w_call (has_ratio c Y G) bp_ratio (hk.mono (by decide)) tk (wa_cons (w_bin or_mul sn_mul (w_ix hk (w_var 0) w_int) (w_ix hk (w_var 1) w_int)) (wa_cons (w_bin or_mul sn_mul (w_ix hk (w_var 0) w_int) (w_ix hk (w_var 1) w_int)) wa_nil)))))
theorem has_times (c : SaysA cks dfs K) (Y : K.In h) (G : h.Ns mainGlobals mg) : Has R.prog w K mg base "times" (defArgs (top 13)) ["one", "other"] 3 m_times := by
  obtain ⟨fd, F⟩ := fd_times c
  exact ⟨⟨_, fd, _, _, _, ckG_ok Y G (c.ck 62 (f := ckG "times")), wk_times c Y G F, F⟩⟩
theorem fd_row_product (c : SaysA cks dfs K) : ∃ fd, FunD K "row_product" "row_product" (defArgs (top 19)) (defBody (top 19)) (defScope (top 19)) [] [] (atG "row_product" K) fd := c.df 37 (d := d_row_product)
theorem wk_row_product (c : SaysA cks dfs K) (Y : K.In h) (G : h.Ns mainGlobals mg) {fd : FuncData} (F : FunD K "row_product" "row_product" (defArgs (top 19)) (defBody (top 19)) (defScope (top 19)) [] [] (atG "row_product" K) fd) : FnG R.prog w K mg base 5 (atG "row_product" K) fd ["one", "other"] (spOf K ["one", "other"].length m_row_product) :=
  fnG_mk (k := 4) F sc_row_product fun cdv A outer s H E hk tk po => by
  have nd := sc_row_product.nd
  unfold b_row_product
  exact (ws_one (w_ret (w_call (has_total c Y G) bp_total (hk.mono (by decide)) tk (wa_cons (w_lc (own := [("mine", 2), ("its", 3)]) rfl nd (w_zip (f_zip c Y G) (wa_cons (w_var 0) (wa_cons (w_var 1) wa_nil))) (blkOk_by (by kernel_rfl)) (fun _ _ _ _ _ => (wgw_tup rfl (wgws_cons (wgw_name 2 nd) (wgws_cons (wgw_name 3 nd) wgws_nil)))) (fun _ _ _ _ _ => wts_nil) (fun _ _ _ _ _ => (w_call (has_times c Y G) bp_times ((Here.blk hk _ _ _ _ _).mono (by decide)) takes_none (wa_cons (w_var 2) (wa_cons (w_var 3) wa_nil))))) wa_nil))))
theorem has_row_product (c : SaysA cks dfs K) (Y : K.In h) (G : h.Ns mainGlobals mg) : Has R.prog w K mg base "row_product" (defArgs (top 19)) ["one", "other"] 5 m_row_product := by
  obtain ⟨fd, F⟩ := fd_row_product c
  exact ⟨⟨_, fd, _, _, _, ckG_ok Y G (c.ck 63 (f := ckG "row_product")), wk_row_product c Y G F, F⟩⟩
theorem fd_row_square (c : SaysA cks dfs K) : ∃ fd, FunD K "row_square" "row_square" (defArgs (top 20)) (defBody (top 20)) (defScope (top 20)) [] [] (atG "row_square" K) fd := c.df 38 (d := d_row_square)
theorem wk_row_square (c : SaysA cks dfs K) (Y : K.In h) (G : h.Ns mainGlobals mg) {fd : FuncData} (F : FunD K "row_square" "row_square" (defArgs (top 20)) (defBody (top 20)) (defScope (top 20)) [] [] (atG "row_square" K) fd) : FnG R.prog w K mg base 6 (atG "row_square" K) fd ["row"] (spOf K ["row"].length m_row_square) :=
  fnG_mk (k := 5) F sc_row_square fun cdv A outer s H E hk tk po => by
  have nd := sc_row_square.nd
  unfold b_row_square
  exact (ws_one (w_ret (w_call (has_row_product c Y G) bp_row_product (hk.mono (by decide)) tk (wa_cons (w_var 0) (wa_cons (w_var 0) wa_nil)))))
theorem has_row_square (c : SaysA cks dfs K) (Y : K.In h) (G : h.Ns mainGlobals mg) : Has R.prog w K mg base "row_square" (defArgs (top 20)) ["row"] 6 m_row_square := by
  obtain ⟨fd, F⟩ := fd_row_square c
  exact ⟨⟨_, fd, _, _, _, ckG_ok Y G (c.ck 64 (f := ckG "row_square")), wk_row_square c Y G F, F⟩⟩
theorem fd_less (c : SaysA cks dfs K) : ∃ fd, FunD K "less" "less" (defArgs (top 12)) (defBody (top 12)) (defScope (top 12)) [] [] (atG "less" K) fd := c.df 39 (d := d_less)
theorem wk_less (c : SaysA cks dfs K) (Y : K.In h) (G : h.Ns mainGlobals mg) {fd : FuncData} (F : FunD K "less" "less" (defArgs (top 12)) (defBody (top 12)) (defScope (top 12)) [] [] (atG "less" K) fd) : FnG R.prog w K mg base 3 (atG "less" K) fd ["one", "other"] (spOf K ["one", "other"].length m_less) :=
  fnG_mk (k := 2) F sc_less fun cdv A outer s H E hk tk po => by
  have nd := sc_less.nd
  unfold b_less
  exact (ws_one (w_ret (w_call (has_ratio c Y G) bp_ratio (hk.mono (by decide)) tk (wa_cons (w_bin op_sub sn_sub (w_bin or_mul sn_mul (w_ix hk (w_var 0) w_int) (w_ix hk (w_var 1) w_int)) (w_bin or_mul sn_mul (w_ix hk (w_var 1) w_int) (w_ix hk (w_var 0) w_int))) (wa_cons (w_bin or_mul sn_mul (w_ix hk (w_var 0) w_int) (w_ix hk (w_var 1) w_int)) wa_nil)))))
theorem has_less (c : SaysA cks dfs K) (Y : K.In h) (G : h.Ns mainGlobals mg) : Has R.prog w K mg base "less" (defArgs (top 12)) ["one", "other"] 3 m_less := by
  obtain ⟨fd, F⟩ := fd_less c
  exact ⟨⟨_, fd, _, _, _, ckG_ok Y G (c.ck 65 (f := ckG "less")), wk_less c Y G F, F⟩⟩
theorem fd_row_less (c : SaysA cks dfs K) : ∃ fd, FunD K "row_less" "row_less" (defArgs (top 17)) (defBody (top 17)) (defScope (top 17)) [] [] (atG "row_less" K) fd := c.df 40 (d := d_row_less)
theorem wk_row_less (c : SaysA cks dfs K) (Y : K.In h) (G : h.Ns mainGlobals mg) {fd : FuncData} (F : FunD K "row_less" "row_less" (defArgs (top 17)) (defBody (top 17)) (defScope (top 17)) [] [] (atG "row_less" K) fd) : FnG R.prog w K mg base 4 (atG "row_less" K) fd ["one", "other"] (spOf K ["one", "other"].length m_row_less) :=
  fnG_mk (k := 3) F sc_row_less fun cdv A outer s H E hk tk po => by
  have nd := sc_row_less.nd
  unfold b_row_less
  exact (ws_one (w_ret (w_callTy (cr_tup rfl) sn_tup (f_tuple c Y G) rfl (wa_cons (w_lc (own := [("mine", 2), ("its", 3)]) rfl nd (w_zip (f_zip c Y G) (wa_cons (w_var 0) (wa_cons (w_var 1) wa_nil))) (blkOk_by (by kernel_rfl)) (fun _ _ _ _ _ => (wgw_tup rfl (wgws_cons (wgw_name 2 nd) (wgws_cons (wgw_name 3 nd) wgws_nil)))) (fun _ _ _ _ _ => wts_nil) (fun _ _ _ _ _ => (w_call (has_less c Y G) bp_less ((Here.blk hk _ _ _ _ _).mono (by decide)) takes_none (wa_cons (w_var 2) (wa_cons (w_var 3) wa_nil))))) wa_nil))))
theorem has_row_less (c : SaysA cks dfs K) (Y : K.In h) (G : h.Ns mainGlobals mg) : Has R.prog w K mg base "row_less" (defArgs (top 17)) ["one", "other"] 4 m_row_less := by
  obtain ⟨fd, F⟩ := fd_row_less c
  exact ⟨⟨_, fd, _, _, _, ckG_ok Y G (c.ck 66 (f := ckG "row_less")), wk_row_less c Y G F, F⟩⟩
theorem fd_way_of (c : SaysA cks dfs K) : ∃ fd, FunD K "way_of" "way_of" (defArgs (top 67)) (defBody (top 67)) (defScope (top 67)) [] [] (atG "way_of" K) fd := c.df 41 (d := d_way_of)
theorem wk_way_of (c : SaysA cks dfs K) (Y : K.In h) (G : h.Ns mainGlobals mg) {fd : FuncData} (F : FunD K "way_of" "way_of" (defArgs (top 67)) (defBody (top 67)) (defScope (top 67)) [] [] (atG "way_of" K) fd) : FnG R.prog w K mg base 5 (atG "way_of" K) fd ["net", "cord"] (spOf K ["net", "cord"].length m_way_of) :=
  fnG_mk (k := 4) F sc_way_of fun cdv A outer s H E hk tk po => by
  have nd := sc_way_of.nd
  unfold b_way_of
  exact (ws_cons (w_asg (w_ix hk (w_prop (has_Net_cords c Y G) bp_Net_cords (hk.mono (by decide)) (w_var 0)) (w_var 1)) (wg_unp rfl (wgs_cons (wg_name 2 nd) (wgs_cons (wg_name 3 nd) wgs_nil))))
    (ws_one (w_ret (w_call (has_row_less c Y G) bp_row_less (hk.mono (by decide)) tk (wa_cons (w_meth (has_Drafts_place c Y G) bp_Drafts_place (hk.mono (by decide)) tk (w_slot (s_Net_own_drafts c) (w_var 0)) (wa_cons (w_var 3) wa_nil)) (wa_cons (w_meth (has_Drafts_place c Y G) bp_Drafts_place (hk.mono (by decide)) tk (w_slot (s_Net_own_drafts c) (w_var 0)) (wa_cons (w_var 2) wa_nil)) wa_nil))))))
theorem has_way_of (c : SaysA cks dfs K) (Y : K.In h) (G : h.Ns mainGlobals mg) : Has R.prog w K mg base "way_of" (defArgs (top 67)) ["net", "cord"] 5 m_way_of := by
  obtain ⟨fd, F⟩ := fd_way_of c
  exact ⟨⟨_, fd, _, _, _, ckG_ok Y G (c.ck 67 (f := ckG "way_of")), wk_way_of c Y G F, F⟩⟩
theorem fd_square_of (c : SaysA cks dfs K) : ∃ fd, FunD K "square_of" "square_of" (defArgs (top 69)) (defBody (top 69)) (defScope (top 69)) [] [] (atG "square_of" K) fd := c.df 42 (d := d_square_of)
theorem wk_square_of (c : SaysA cks dfs K) (Y : K.In h) (G : h.Ns mainGlobals mg) {fd : FuncData} (F : FunD K "square_of" "square_of" (defArgs (top 69)) (defBody (top 69)) (defScope (top 69)) [] [] (atG "square_of" K) fd) : FnG R.prog w K mg base 7 (atG "square_of" K) fd ["net", "cord"] (spOf K ["net", "cord"].length m_square_of) :=
  fnG_mk (k := 6) F sc_square_of fun cdv A outer s H E hk tk po => by
  have nd := sc_square_of.nd
  unfold b_square_of
  exact (ws_cons (w_expr (w_call (has_check_cord c Y G) bp_check_cord (hk.mono (by decide)) tk (wa_cons (w_var 0) (wa_cons (w_var 1) wa_nil))))
    (ws_one (w_ret (w_call (has_row_square c Y G) bp_row_square (hk.mono (by decide)) tk (wa_cons (w_call (has_way_of c Y G) bp_way_of (hk.mono (by decide)) tk (wa_cons (w_var 0) (wa_cons (w_var 1) wa_nil))) wa_nil)))))
theorem has_square_of (c : SaysA cks dfs K) (Y : K.In h) (G : h.Ns mainGlobals mg) : Has R.prog w K mg base "square_of" (defArgs (top 69)) ["net", "cord"] 7 m_square_of := by
  obtain ⟨fd, F⟩ := fd_square_of c
  exact ⟨⟨_, fd, _, _, _, ckG_ok Y G (c.ck 68 (f := ckG "square_of")), wk_square_of c Y G F, F⟩⟩
theorem fd_cords_at (c : SaysA cks dfs K) : ∃ fd, FunD K "cords_at" "cords_at" (defArgs (top 70)) (defBody (top 70)) (defScope (top 70)) [] [] (atG "cords_at" K) fd := c.df 43 (d := d_cords_at)
theorem wk_cords_at (c : SaysA cks dfs K) (Y : K.In h) (G : h.Ns mainGlobals mg) {fd : FuncData} (F : FunD K "cords_at" "cords_at" (defArgs (top 70)) (defBody (top 70)) (defScope (top 70)) [] [] (atG "cords_at" K) fd) : FnG R.prog w K mg base 4 (atG "cords_at" K) fd ["net", "name"] (spOf K ["net", "name"].length m_cords_at) :=
  fnG_mk (k := 3) F sc_cords_at fun cdv A outer s H E hk tk po => by
  have nd := sc_cords_at.nd
  unfold b_cords_at
  exact (ws_cons (w_expr (w_call (has_check_name c Y G) bp_check_name (hk.mono (by decide)) tk (wa_cons (w_var 0) (wa_cons (w_var 1) wa_nil))))
    (ws_one (w_ret (w_callTy (cr_tup rfl) sn_tup (f_tuple c Y G) rfl (wa_cons (w_lc (own := [("at", 2), ("ends", 3)]) rfl nd (w_enum (f_enumerate c Y G) (wa_cons (w_prop (has_Net_cords c Y G) bp_Net_cords (hk.mono (by decide)) (w_var 0)) wa_nil)) (blkOk_by (by kernel_rfl)) (fun _ _ _ _ _ => (wgw_tup rfl (wgws_cons (wgw_name 2 nd) (wgws_cons (wgw_name 3 nd) wgws_nil)))) (fun _ _ _ _ _ => (wts_one (wt_cmp (or_in (Here.blk hk _ _ _ _ _)) cs_in (w_var 1) (w_var 3)))) (fun _ _ _ _ _ => (w_var 2))) wa_nil)))))
theorem has_cords_at (c : SaysA cks dfs K) (Y : K.In h) (G : h.Ns mainGlobals mg) : Has R.prog w K mg base "cords_at" (defArgs (top 70)) ["net", "name"] 4 m_cords_at := by
  obtain ⟨fd, F⟩ := fd_cords_at c
  exact ⟨⟨_, fd, _, _, _, ckG_ok Y G (c.ck 69 (f := ckG "cords_at")), wk_cords_at c Y G F, F⟩⟩
theorem fd__law_are_names_right (c : SaysA cks dfs K) : ∃ fd, FunD K "_law_are_names_right" "_law_are_names_right" (defArgs (top 92)) (defBody (top 92)) (defScope (top 92)) [] [] (atG "_law_are_names_right" K) fd := c.df 44 (d := d__law_are_names_right)
theorem wk__law_are_names_right (c : SaysA cks dfs K) (Y : K.In h) (G : h.Ns mainGlobals mg) {fd : FuncData} (F : FunD K "_law_are_names_right" "_law_are_names_right" (defArgs (top 92)) (defBody (top 92)) (defScope (top 92)) [] [] (atG "_law_are_names_right" K) fd) : FnG R.prog w K mg base 8 (atG "_law_are_names_right" K) fd ["net", "names"] (spOf K ["net", "names"].length m__law_are_names_right) :=
  fnG_mk (k := 7) F sc__law_are_names_right fun cdv A outer s H E hk tk po => by
  have nd := sc__law_are_names_right.nd
  unfold b__law_are_names_right
  exact (ws_cons (w_asg (w_var 1) (wg_unp rfl (wgs_cons (wg_name 2 nd) (wgs_cons (wg_name 3 nd) (wgs_cons (wg_name 4 nd) (wgs_cons (wg_name 5 nd) wgs_nil))))))
    (ws_cons (w_asg (w_lst true (wa_cons (w_prop (has_Net_pegs c Y G) bp_Net_pegs (hk.mono (by decide)) (w_var 0)) (wa_cons (w_prop (has_Net_rings c Y G) bp_Net_rings (hk.mono (by decide)) (w_var 0)) (wa_cons (w_prop (has_Net_cords c Y G) bp_Net_cords (hk.mono (by decide)) (w_var 0)) (wa_cons (w_prop (has_Net_coords c Y G) bp_Net_coords (hk.mono (by decide)) (w_var 0)) (wa_cons (w_callB (cr_lenO (has_Net_u_len_u c Y G) bp_Net_u_len_u (hk.mono (by decide))) sn_lenO (f_len c Y G) rfl (wa_cons (w_var 0) wa_nil)) wa_nil)))))) (wg_name 6 nd))
    (ws_cons (w_expr (w_bm PySem.F.plainAttrs_list PySem.F.slot_list_extend PySem.F.type_list_extend mt_extend sn_extend (w_var 6) (wa_cons (w_lst false (wa_cons (w_call (has_place_of c Y G) bp_place_of (hk.mono (by decide)) tk (wa_cons (w_var 0) (wa_cons (w_var 5) wa_nil))) (wa_cons (w_call (has_weight_of c Y G) bp_weight_of (hk.mono (by decide)) tk (wa_cons (w_var 0) (wa_cons (w_var 5) wa_nil))) (wa_cons (w_call (has_weight_of c Y G) bp_weight_of (hk.mono (by decide)) tk (wa_cons (w_var 0) (wa_cons (w_var 3) wa_nil))) wa_nil)))) wa_nil)))
    (ws_cons (w_asg (w_lst true (wa_cons (w_tup (wa_cons (w_var 2) (wa_cons (w_var 3) wa_nil))) (wa_cons (w_tup (wa_cons (w_var 4) (wa_cons (w_var 5) wa_nil))) (wa_cons (w_tup (wa_cons (w_tup (wa_cons (w_var 2) (wa_cons (w_var 4) wa_nil))) (wa_cons (w_tup (wa_cons (w_var 4) (wa_cons (w_var 3) wa_nil))) (wa_cons (w_tup (wa_cons (w_var 5) (wa_cons (w_var 4) wa_nil))) wa_nil)))) (wa_cons w_int (wa_cons w_int (wa_cons (w_tup (wa_cons (w_tup (wa_cons w_int (wa_cons w_int wa_nil))) (wa_cons (w_tup (wa_cons (w_un un_neg sn_neg w_int) (wa_cons w_int wa_nil))) wa_nil))) (wa_cons (w_tup (wa_cons (w_tup (wa_cons w_int (wa_cons w_int wa_nil))) (wa_cons (w_tup (wa_cons w_int (wa_cons w_int wa_nil))) wa_nil))) (wa_cons (w_tup (wa_cons (w_tup (wa_cons w_int (wa_cons w_int wa_nil))) (wa_cons (w_tup (wa_cons w_int (wa_cons w_int wa_nil))) wa_nil))) wa_nil))))))))) (wg_name 7 nd))
    (ws_cons (w_expr (w_bm PySem.F.plainAttrs_list PySem.F.slot_list_extend PySem.F.type_list_extend mt_extend sn_extend (w_var 6) (wa_cons (w_lst false (wa_cons (w_call (has_square_of c Y G) bp_square_of (hk.mono (by decide)) tk (wa_cons (w_var 0) (wa_cons w_int wa_nil))) (wa_cons (w_call (has_square_of c Y G) bp_square_of (hk.mono (by decide)) tk (wa_cons (w_var 0) (wa_cons w_int wa_nil))) (wa_cons (w_call (has_square_of c Y G) bp_square_of (hk.mono (by decide)) tk (wa_cons (w_var 0) (wa_cons w_int wa_nil))) wa_nil)))) wa_nil)))
    (ws_cons (w_expr (w_bm PySem.F.plainAttrs_list PySem.F.slot_list_extend PySem.F.type_list_extend mt_extend sn_extend (w_var 6) (wa_cons (w_lst false (wa_cons (w_call (has_cords_at c Y G) bp_cords_at (hk.mono (by decide)) tk (wa_cons (w_var 0) (wa_cons (w_var 4) wa_nil))) (wa_cons (w_call (has_cords_at c Y G) bp_cords_at (hk.mono (by decide)) tk (wa_cons (w_var 0) (wa_cons (w_var 5) wa_nil))) (wa_cons (w_call (has_cords_at c Y G) bp_cords_at (hk.mono (by decide)) tk (wa_cons (w_var 0) (wa_cons (w_var 2) wa_nil))) wa_nil)))) wa_nil)))
    (ws_cons (w_expr (w_bm PySem.F.plainAttrs_list PySem.F.slot_list_extend PySem.F.type_list_extend mt_extend sn_extend (w_var 7) (wa_cons (w_lst false (wa_cons (w_tup (wa_cons w_int (wa_cons w_int wa_nil))) (wa_cons (w_tup (wa_cons w_int (wa_cons w_int wa_nil))) (wa_cons (w_tup (wa_cons w_int (wa_cons w_int wa_nil))) (wa_cons (w_tup (wa_cons w_int (wa_cons w_int (wa_cons w_int wa_nil)))) (wa_cons (w_tup (wa_cons w_int wa_nil)) (wa_cons (w_tup (wa_cons w_int wa_nil)) wa_nil))))))) wa_nil)))
    (ws_one (w_ret (w_cmp (or_eq hk) cs_eq (w_callB (cr_repr hk) sn_repr (f_repr c Y G) rfl (wa_cons (w_var 6) wa_nil)) (w_callB (cr_repr hk) sn_repr (f_repr c Y G) rfl (wa_cons (w_var 7) wa_nil))))))))))))
theorem has__law_are_names_right (c : SaysA cks dfs K) (Y : K.In h) (G : h.Ns mainGlobals mg) : Has R.prog w K mg base "_law_are_names_right" (defArgs (top 92)) ["net", "names"] 8 m__law_are_names_right := by
  obtain ⟨fd, F⟩ := fd__law_are_names_right c
  exact ⟨⟨_, fd, _, _, _, ckG_ok Y G (c.ck 70 (f := ckG "_law_are_names_right")), wk__law_are_names_right c Y G F, F⟩⟩
theorem fd_picture (c : SaysA cks dfs K) : ∃ fd, FunD K "picture" "picture" (defArgs (top 81)) (defBody (top 81)) (defScope (top 81)) [] [] (atG "picture" K) fd := c.df 45 (d := d_picture)
theorem wk_picture (c : SaysA cks dfs K) (Y : K.In h) (G : h.Ns mainGlobals mg) {fd : FuncData} (F : FunD K "picture" "picture" (defArgs (top 81)) (defBody (top 81)) (defScope (top 81)) [] [] (atG "picture" K) fd) : FnG R.prog w K mg base 5 (atG "picture" K) fd ["net"] (spOf K ["net"].length m_picture) :=
  fnG_mk (k := 4) F sc_picture fun cdv A outer s H E hk tk po => by
  have nd := sc_picture.nd
  unfold b_picture
  exact (ws_one (w_ret (w_callTy (cr_tup rfl) sn_tup (f_tuple c Y G) rfl (wa_cons (w_lc (own := [("name", 1)]) rfl nd (w_seq (w_prop (has_Net_rings c Y G) bp_Net_rings (hk.mono (by decide)) (w_var 0))) (blkOk_by (by kernel_rfl)) (fun _ _ _ _ _ => (wgw_name 1 nd)) (fun _ _ _ _ _ => wts_nil) (fun _ _ _ _ _ => (w_call (has_place_of c Y G) bp_place_of ((Here.blk hk _ _ _ _ _).mono (by decide)) takes_none (wa_cons (w_var 0) (wa_cons (w_var 1) wa_nil))))) wa_nil))))
theorem has_picture (c : SaysA cks dfs K) (Y : K.In h) (G : h.Ns mainGlobals mg) : Has R.prog w K mg base "picture" (defArgs (top 81)) ["net"] 5 m_picture := by
  obtain ⟨fd, F⟩ := fd_picture c
  exact ⟨⟨_, fd, _, _, _, ckG_ok Y G (c.ck 71 (f := ckG "picture")), wk_picture c Y G F, F⟩⟩
theorem fd_is_tuple (c : SaysA cks dfs K) : ∃ fd, FunD K "is_tuple" "is_tuple" (defArgs (top 34)) (defBody (top 34)) (defScope (top 34)) [] [] (atG "is_tuple" K) fd := c.df 46 (d := d_is_tuple)
theorem wk_is_tuple (c : SaysA cks dfs K) (Y : K.In h) (G : h.Ns mainGlobals mg) {fd : FuncData} (F : FunD K "is_tuple" "is_tuple" (defArgs (top 34)) (defBody (top 34)) (defScope (top 34)) [] [] (atG "is_tuple" K) fd) : FnG R.prog w K mg base 1 (atG "is_tuple" K) fd ["value", "low", "high"] (spOf K ["value", "low", "high"].length m_is_tuple) :=
  fnG_mk (k := 0) F sc_is_tuple fun cdv A outer s H E hk tk po => by
  have nd := sc_is_tuple.nd
  unfold b_is_tuple
  exact (ws_one (w_ret (w_and (w_isi (U := "tuple") (w_var 0) (by decide) (f_isinstance c Y G) (f_tuple c Y G)) (w_one (w_chain op_le cs_int op_le cs_int (w_var 1) (w_callB cr_len sn_len (f_len c Y G) rfl (wa_cons (w_var 0) wa_nil)) (w_var 2))))))
theorem has_is_tuple (c : SaysA cks dfs K) (Y : K.In h) (G : h.Ns mainGlobals mg) : Has R.prog w K mg base "is_tuple" (defArgs (top 34)) ["value", "low", "high"] 1 m_is_tuple := by
  obtain ⟨fd, F⟩ := fd_is_tuple c
  exact ⟨⟨_, fd, _, _, _, ckG_ok Y G (c.ck 72 (f := ckG "is_tuple")), wk_is_tuple c Y G F, F⟩⟩
theorem fd_is_row (c : SaysA cks dfs K) : ∃ fd, FunD K "is_row" "is_row" (defArgs (top 23)) (defBody (top 23)) (defScope (top 23)) [] [] (atG "is_row" K) fd := c.df 47 (d := d_is_row)
theorem wk_is_row (c : SaysA cks dfs K) (Y : K.In h) (G : h.Ns mainGlobals mg) {fd : FuncData} (F : FunD K "is_row" "is_row" (defArgs (top 23)) (defBody (top 23)) (defScope (top 23)) [] [] (atG "is_row" K) fd) : FnG R.prog w K mg base 3 (atG "is_row" K) fd ["value", "low", "high"] (spOf K ["value", "low", "high"].length m_is_row) :=
  fnG_mk (k := 2) F sc_is_row fun cdv A outer s H E hk tk po => by
  have nd := sc_is_row.nd
  unfold b_is_row
  exact (ws_one (w_ret (w_and (w_isi (U := "tuple") (w_var 0) (by decide) (f_isinstance c Y G) (f_tuple c Y G)) (w_and (w_chain op_le cs_int op_le cs_int (w_var 1) (w_callB cr_len sn_len (f_len c Y G) rfl (wa_cons (w_var 0) wa_nil)) (w_var 2)) (w_one (w_callB (cr_all rfl) sn_all (f_all c Y G) rfl (wa_cons (w_lc (own := [("one", 3)]) rfl nd (w_seq (w_var 0)) (blkOk_by (by kernel_rfl)) (fun _ _ _ _ _ => (wgw_name 3 nd)) (fun _ _ _ _ _ => wts_nil) (fun _ _ _ _ _ => (w_call (has_is_ratio c Y G) bp_is_ratio ((Here.blk hk _ _ _ _ _).mono (by decide)) takes_none (wa_cons (w_var 3) wa_nil)))) wa_nil)))))))
theorem has_is_row (c : SaysA cks dfs K) (Y : K.In h) (G : h.Ns mainGlobals mg) : Has R.prog w K mg base "is_row" (defArgs (top 23)) ["value", "low", "high"] 3 m_is_row := by
  obtain ⟨fd, F⟩ := fd_is_row c
  exact ⟨⟨_, fd, _, _, _, ckG_ok Y G (c.ck 73 (f := ckG "is_row")), wk_is_row c Y G F, F⟩⟩
theorem fd_are_rows (c : SaysA cks dfs K) : ∃ fd, FunD K "are_rows" "are_rows" (defArgs (top 78)) (defBody (top 78)) (defScope (top 78)) [] [] (atG "are_rows" K) fd := c.df 48 (d := d_are_rows)
theorem wk_are_rows (c : SaysA cks dfs K) (Y : K.In h) (G : h.Ns mainGlobals mg) {fd : FuncData} (F : FunD K "are_rows" "are_rows" (defArgs (top 78)) (defBody (top 78)) (defScope (top 78)) [] [] (atG "are_rows" K) fd) : FnG R.prog w K mg base 4 (atG "are_rows" K) fd ["net", "value"] (spOf K ["net", "value"].length m_are_rows) :=
  fnG_mk (k := 3) F sc_are_rows fun cdv A outer s H E hk tk po => by
  have nd := sc_are_rows.nd
  unfold b_are_rows
  exact (ws_cons (w_if (wt_or (wt_not (wt_truth (w_call (has_is_tuple c Y G) bp_is_tuple (hk.mono (by decide)) tk (wa_cons (w_var 1) (wa_cons (w_callB (cr_lenO (has_Net_u_len_u c Y G) bp_Net_u_len_u (hk.mono (by decide))) sn_lenO (f_len c Y G) rfl (wa_cons (w_var 0) wa_nil)) (wa_cons (w_callB (cr_lenO (has_Net_u_len_u c Y G) bp_Net_u_len_u (hk.mono (by decide))) sn_lenO (f_len c Y G) rfl (wa_cons (w_var 0) wa_nil)) wa_nil)))))) (wt_or1 (wt_not (wt_truth (w_callB (cr_all rfl) sn_all (f_all c Y G) rfl (wa_cons (w_lc (own := [("row", 2)]) rfl nd (w_seq (w_var 1)) (blkOk_by (by kernel_rfl)) (fun _ _ _ _ _ => (wgw_name 2 nd)) (fun _ _ _ _ _ => wts_nil) (fun _ _ _ _ _ => (w_call (has_is_row c Y G) bp_is_row ((Here.blk hk _ _ _ _ _).mono (by decide)) takes_none (wa_cons (w_var 2) (wa_cons (w_prop (has_Net_coords c Y G) bp_Net_coords ((Here.blk hk _ _ _ _ _).mono (by decide)) (w_var 0)) (wa_cons (w_glo (g_MOST_COORDS_placements c Y G)) wa_nil)))))) wa_nil)))))).pt (ws_one (w_ret w_bl)) ws_nil)
    (ws_one (w_ret (w_callB (cr_all rfl) sn_all (f_all c Y G) rfl (wa_cons (w_lc (own := [("row", 2)]) rfl nd (w_seq (w_var 1)) (blkOk_by (by kernel_rfl)) (fun _ _ _ _ _ => (wgw_name 2 nd)) (fun _ _ _ _ _ => wts_nil) (fun _ _ _ _ _ => (w_cmp (or_eq (Here.blk hk _ _ _ _ _)) cs_eq (w_callB cr_len sn_len (f_len c Y G) rfl (wa_cons (w_var 2) wa_nil)) (w_callB cr_len sn_len (f_len c Y G) rfl (wa_cons (w_ix (Here.blk hk _ _ _ _ _) (w_var 1) w_int) wa_nil))))) wa_nil)))))
theorem has_are_rows (c : SaysA cks dfs K) (Y : K.In h) (G : h.Ns mainGlobals mg) : Has R.prog w K mg base "are_rows" (defArgs (top 78)) ["net", "value"] 4 m_are_rows := by
  obtain ⟨fd, F⟩ := fd_are_rows c
  exact ⟨⟨_, fd, _, _, _, ckG_ok Y G (c.ck 74 (f := ckG "are_rows")), wk_are_rows c Y G F, F⟩⟩
theorem fd_led_on (c : SaysA cks dfs K) : ∃ fd, FunD K "led_on" "led_on" (defArgs (top 73)) (defBody (top 73)) (defScope (top 73)) [] [] (atG "led_on" K) fd := c.df 49 (d := d_led_on)
theorem wk_led_on (c : SaysA cks dfs K) (Y : K.In h) (G : h.Ns mainGlobals mg) {fd : FuncData} (F : FunD K "led_on" "led_on" (defArgs (top 73)) (defBody (top 73)) (defScope (top 73)) [] [] (atG "led_on" K) fd) : FnG R.prog w K mg base 1 (atG "led_on" K) fd ["row", "many"] (spOf K ["row", "many"].length m_led_on) :=
  fnG_mk (k := 0) F sc_led_on fun cdv A outer s H E hk tk po => by
  have nd := sc_led_on.nd
  unfold b_led_on
  exact (ws_one (w_ret (w_tup (wa_star (w_var 0) (wa_star (w_lc (own := [("lap", 2)]) rfl nd (w_range1 (f_range c Y G) (wa_cons (w_bin op_sub sn_sub (w_var 1) (w_callB cr_len sn_len (f_len c Y G) rfl (wa_cons (w_var 0) wa_nil))) wa_nil)) (blkOk_by (by kernel_rfl)) (fun _ _ _ _ _ => (wgw_name 2 nd)) (fun _ _ _ _ _ => wts_nil) (fun _ _ _ _ _ => (w_glo (g_NOUGHT c Y G)))) wa_nil)))))
theorem has_led_on (c : SaysA cks dfs K) (Y : K.In h) (G : h.Ns mainGlobals mg) : Has R.prog w K mg base "led_on" (defArgs (top 73)) ["row", "many"] 1 m_led_on := by
  obtain ⟨fd, F⟩ := fd_led_on c
  exact ⟨⟨_, fd, _, _, _, ckG_ok Y G (c.ck 75 (f := ckG "led_on")), wk_led_on c Y G F, F⟩⟩
theorem fd_width_of (c : SaysA cks dfs K) : ∃ fd, FunD K "width_of" "width_of" (defArgs (top 74)) (defBody (top 74)) (defScope (top 74)) [] [] (atG "width_of" K) fd := c.df 50 (d := d_width_of)
theorem wk_width_of (c : SaysA cks dfs K) (Y : K.In h) (G : h.Ns mainGlobals mg) {fd : FuncData} (F : FunD K "width_of" "width_of" (defArgs (top 74)) (defBody (top 74)) (defScope (top 74)) [] [] (atG "width_of" K) fd) : FnG R.prog w K mg base 3 (atG "width_of" K) fd ["net", "placement"] (spOf K ["net", "placement"].length m_width_of) :=
  fnG_mk (k := 2) F sc_width_of fun cdv A outer s H E hk tk po => by
  have nd := sc_width_of.nd
  unfold b_width_of
  exact (ws_one (w_ret (w_ifE (wt_cmp (or_ne hk) cs_ne (w_var 1) (w_tup wa_nil)) (w_callB cr_len sn_len (f_len c Y G) rfl (wa_cons (w_ix hk (w_var 1) w_int) wa_nil)) (w_prop (has_Net_coords c Y G) bp_Net_coords (hk.mono (by decide)) (w_var 0)))))
theorem has_width_of (c : SaysA cks dfs K) (Y : K.In h) (G : h.Ns mainGlobals mg) : Has R.prog w K mg base "width_of" (defArgs (top 74)) ["net", "placement"] 3 m_width_of := by
  obtain ⟨fd, F⟩ := fd_width_of c
  exact ⟨⟨_, fd, _, _, _, ckG_ok Y G (c.ck 76 (f := ckG "width_of")), wk_width_of c Y G F, F⟩⟩
theorem fd_spot (c : SaysA cks dfs K) : ∃ fd, FunD K "spot" "spot" (defArgs (top 75)) (defBody (top 75)) (defScope (top 75)) [] [] (atG "spot" K) fd := c.df 51 (d := d_spot)
theorem wk_spot (c : SaysA cks dfs K) (Y : K.In h) (G : h.Ns mainGlobals mg) {fd : FuncData} (F : FunD K "spot" "spot" (defArgs (top 75)) (defBody (top 75)) (defScope (top 75)) [] [] (atG "spot" K) fd) : FnG R.prog w K mg base 5 (atG "spot" K) fd ["net", "placement", "name"] (spOf K ["net", "placement", "name"].length m_spot) :=
  fnG_mk (k := 4) F sc_spot fun cdv A outer s H E hk tk po => by
  have nd := sc_spot.nd
  unfold b_spot
  exact (ws_cons (w_if (wt_cmp (or_in hk) cs_in (w_var 2) (w_prop (has_Net_rings c Y G) bp_Net_rings (hk.mono (by decide)) (w_var 0))) (ws_one (w_ret (w_ix hk (w_var 1) (w_idx (hasI_Net_rings c Y G) bp_Net_rings (hk.mono (by decide)) (w_var 0) (w_var 2))))) ws_nil)
    (ws_one (w_ret (w_call (has_led_on c Y G) bp_led_on (hk.mono (by decide)) tk (wa_cons (w_call (has_place_of c Y G) bp_place_of (hk.mono (by decide)) tk (wa_cons (w_var 0) (wa_cons (w_var 2) wa_nil))) (wa_cons (w_call (has_width_of c Y G) bp_width_of (hk.mono (by decide)) tk (wa_cons (w_var 0) (wa_cons (w_var 1) wa_nil))) wa_nil))))))
theorem has_spot (c : SaysA cks dfs K) (Y : K.In h) (G : h.Ns mainGlobals mg) : Has R.prog w K mg base "spot" (defArgs (top 75)) ["net", "placement", "name"] 5 m_spot := by
  obtain ⟨fd, F⟩ := fd_spot c
  exact ⟨⟨_, fd, _, _, _, ckG_ok Y G (c.ck 77 (f := ckG "spot")), wk_spot c Y G F, F⟩⟩
theorem fd_square_apart (c : SaysA cks dfs K) : ∃ fd, FunD K "square_apart" "square_apart" (defArgs (top 76)) (defBody (top 76)) (defScope (top 76)) [] [] (atG "square_apart" K) fd := c.df 52 (d := d_square_apart)
theorem wk_square_apart (c : SaysA cks dfs K) (Y : K.In h) (G : h.Ns mainGlobals mg) {fd : FuncData} (F : FunD K "square_apart" "square_apart" (defArgs (top 76)) (defBody (top 76)) (defScope (top 76)) [] [] (atG "square_apart" K) fd) : FnG R.prog w K mg base 7 (atG "square_apart" K) fd ["net", "placement", "one", "other"] (spOf K ["net", "placement", "one", "other"].length m_square_apart) :=
  fnG_mk (k := 6) F sc_square_apart fun cdv A outer s H E hk tk po => by
  have nd := sc_square_apart.nd
  unfold b_square_apart
  exact (ws_one (w_ret (w_call (has_row_square c Y G) bp_row_square (hk.mono (by decide)) tk (wa_cons (w_call (has_row_less c Y G) bp_row_less (hk.mono (by decide)) tk (wa_cons (w_call (has_spot c Y G) bp_spot (hk.mono (by decide)) tk (wa_cons (w_var 0) (wa_cons (w_var 1) (wa_cons (w_var 2) wa_nil)))) (wa_cons (w_call (has_spot c Y G) bp_spot (hk.mono (by decide)) tk (wa_cons (w_var 0) (wa_cons (w_var 1) (wa_cons (w_var 3) wa_nil)))) wa_nil))) wa_nil))))
theorem has_square_apart (c : SaysA cks dfs K) (Y : K.In h) (G : h.Ns mainGlobals mg) : Has R.prog w K mg base "square_apart" (defArgs (top 76)) ["net", "placement", "one", "other"] 7 m_square_apart := by
  obtain ⟨fd, F⟩ := fd_square_apart c
  exact ⟨⟨_, fd, _, _, _, ckG_ok Y G (c.ck 78 (f := ckG "square_apart")), wk_square_apart c Y G F, F⟩⟩
theorem fd_loose_by (c : SaysA cks dfs K) : ∃ fd, FunD K "loose_by" "loose_by" (defArgs (top 77)) (defBody (top 77)) (defScope (top 77)) [] [] (atG "loose_by" K) fd := c.df 53 (d := d_loose_by)
theorem wk_loose_by (c : SaysA cks dfs K) (Y : K.In h) (G : h.Ns mainGlobals mg) {fd : FuncData} (F : FunD K "loose_by" "loose_by" (defArgs (top 77)) (defBody (top 77)) (defScope (top 77)) [] [] (atG "loose_by" K) fd) : FnG R.prog w K mg base 8 (atG "loose_by" K) fd ["net", "placement"] (spOf K ["net", "placement"].length m_loose_by) :=
  fnG_mk (k := 7) F sc_loose_by fun cdv A outer s H E hk tk po => by
  have nd := sc_loose_by.nd
  unfold b_loose_by
  exact (ws_cons (w_asg (w_lst true wa_nil) (wg_name 2 nd))
    (ws_cons (w_for po rfl (w_enum (f_enumerate c Y G) (wa_cons (w_prop (has_Net_cords c Y G) bp_Net_cords (hk.mono (by decide)) (w_var 0)) wa_nil)) (wg_tup rfl (wgs_cons (wg_name 3 nd) (wgs_cons (wg_tup rfl (wgs_cons (wg_name 4 nd) (wgs_cons (wg_name 5 nd) wgs_nil))) wgs_nil))) (ws_one (w_expr (w_bm PySem.F.plainAttrs_list PySem.F.slot_list_append PySem.F.type_list_append mt_append sn_append (w_var 2) (wa_cons (w_call (has_less c Y G) bp_less (hk.mono (by decide)) tk (wa_cons (w_call (has_square_of c Y G) bp_square_of (hk.mono (by decide)) tk (wa_cons (w_var 0) (wa_cons (w_var 3) wa_nil))) (wa_cons (w_call (has_square_apart c Y G) bp_square_apart (hk.mono (by decide)) tk (wa_cons (w_var 0) (wa_cons (w_var 1) (wa_cons (w_var 4) (wa_cons (w_var 5) wa_nil))))) wa_nil))) wa_nil)))))
    (ws_one (w_ret (w_callTy (cr_tup rfl) sn_tup (f_tuple c Y G) rfl (wa_cons (w_var 2) wa_nil))))))
theorem has_loose_by (c : SaysA cks dfs K) (Y : K.In h) (G : h.Ns mainGlobals mg) : Has R.prog w K mg base "loose_by" (defArgs (top 77)) ["net", "placement"] 8 m_loose_by := by
  obtain ⟨fd, F⟩ := fd_loose_by c
  exact ⟨⟨_, fd, _, _, _, ckG_ok Y G (c.ck 79 (f := ckG "loose_by")), wk_loose_by c Y G F, F⟩⟩
theorem fd_is_below (c : SaysA cks dfs K) : ∃ fd, FunD K "is_below" "is_below" (defArgs (top 14)) (defBody (top 14)) (defScope (top 14)) [] [] (atG "is_below" K) fd := c.df 54 (d := d_is_below)
theorem wk_is_below (c : SaysA cks dfs K) (Y : K.In h) (G : h.Ns mainGlobals mg) {fd : FuncData} (F : FunD K "is_below" "is_below" (defArgs (top 14)) (defBody (top 14)) (defScope (top 14)) [] [] (atG "is_below" K) fd) : FnG R.prog w K mg base 1 (atG "is_below" K) fd ["one", "other"] (spOf K ["one", "other"].length m_is_below) :=
  fnG_mk (k := 0) F sc_is_below fun cdv A outer s H E hk tk po => by
  have nd := sc_is_below.nd
  unfold b_is_below
  exact (ws_one (w_ret (w_cmp op_lt cs_int (w_bin or_mul sn_mul (w_ix hk (w_var 0) w_int) (w_ix hk (w_var 1) w_int)) (w_bin or_mul sn_mul (w_ix hk (w_var 1) w_int) (w_ix hk (w_var 0) w_int)))))
theorem has_is_below (c : SaysA cks dfs K) (Y : K.In h) (G : h.Ns mainGlobals mg) : Has R.prog w K mg base "is_below" (defArgs (top 14)) ["one", "other"] 1 m_is_below := by
  obtain ⟨fd, F⟩ := fd_is_below c
  exact ⟨⟨_, fd, _, _, _, ckG_ok Y G (c.ck 80 (f := ckG "is_below")), wk_is_below c Y G F, F⟩⟩
theorem fd_is_placement (c : SaysA cks dfs K) : ∃ fd, FunD K "is_placement" "is_placement" (defArgs (top 79)) (defBody (top 79)) (defScope (top 79)) [] [] (atG "is_placement" K) fd := c.df 55 (d := d_is_placement)
theorem wk_is_placement (c : SaysA cks dfs K) (Y : K.In h) (G : h.Ns mainGlobals mg) {fd : FuncData} (F : FunD K "is_placement" "is_placement" (defArgs (top 79)) (defBody (top 79)) (defScope (top 79)) [] [] (atG "is_placement" K) fd) : FnG R.prog w K mg base 9 (atG "is_placement" K) fd ["net", "value"] (spOf K ["net", "value"].length m_is_placement) :=
  fnG_mk (k := 8) F sc_is_placement fun cdv A outer s H E hk tk po => by
  have nd := sc_is_placement.nd
  unfold b_is_placement
  exact (ws_one (w_ret (w_and (w_call (has_are_rows c Y G) bp_are_rows (hk.mono (by decide)) tk (wa_cons (w_var 0) (wa_cons (w_var 1) wa_nil))) (w_one (w_not (w_callB (cr_any rfl) sn_any (f_any c Y G) rfl (wa_cons (w_lc (own := [("much", 2)]) rfl nd (w_seq (w_call (has_loose_by c Y G) bp_loose_by (hk.mono (by decide)) tk (wa_cons (w_var 0) (wa_cons (w_var 1) wa_nil)))) (blkOk_by (by kernel_rfl)) (fun _ _ _ _ _ => (wgw_name 2 nd)) (fun _ _ _ _ _ => wts_nil) (fun _ _ _ _ _ => (w_call (has_is_below c Y G) bp_is_below ((Here.blk hk _ _ _ _ _).mono (by decide)) takes_none (wa_cons (w_var 2) (wa_cons (w_glo (g_NOUGHT c Y G)) wa_nil))))) wa_nil)))))))
theorem has_is_placement (c : SaysA cks dfs K) (Y : K.In h) (G : h.Ns mainGlobals mg) : Has R.prog w K mg base "is_placement" (defArgs (top 79)) ["net", "value"] 9 m_is_placement := by
  obtain ⟨fd, F⟩ := fd_is_placement c
  exact ⟨⟨_, fd, _, _, _, ckG_ok Y G (c.ck 81 (f := ckG "is_placement")), wk_is_placement c Y G F, F⟩⟩
theorem fd_check_placement (c : SaysA cks dfs K) : ∃ fd, FunD K "check_placement" "check_placement" (defArgs (top 80)) (defBody (top 80)) (defScope (top 80)) [] [] (atG "check_placement" K) fd := c.df 56 (d := d_check_placement)
theorem wk_check_placement (c : SaysA cks dfs K) (Y : K.In h) (G : h.Ns mainGlobals mg) {fd : FuncData} (F : FunD K "check_placement" "check_placement" (defArgs (top 80)) (defBody (top 80)) (defScope (top 80)) [] [] (atG "check_placement" K) fd) : FnG R.prog w K mg base 10 (atG "check_placement" K) fd ["net", "placement"] (spOf K ["net", "placement"].length m_check_placement) :=
  fnG_mk (k := 9) F sc_check_placement fun cdv A outer s H E hk tk po => by
  have nd := sc_check_placement.nd
  unfold b_check_placement
  exact (ws_one (w_if (wt_not (wt_truth (w_call (has_is_placement c Y G) bp_is_placement (hk.mono (by decide)) tk (wa_cons (w_var 0) (wa_cons (w_var 1) wa_nil))))) (ws_one w_never) ws_nil))
theorem has_check_placement (c : SaysA cks dfs K) (Y : K.In h) (G : h.Ns mainGlobals mg) : Has R.prog w K mg base "check_placement" (defArgs (top 80)) ["net", "placement"] 10 m_check_placement := by
  obtain ⟨fd, F⟩ := fd_check_placement c
  exact ⟨⟨_, fd, _, _, _, ckG_ok Y G (c.ck 82 (f := ckG "check_placement")), wk_check_placement c Y G F, F⟩⟩
theorem fd_is_rate (c : SaysA cks dfs K) : ∃ fd, FunD K "is_rate" "is_rate" (defArgs (top 22)) (defBody (top 22)) (defScope (top 22)) [] [] (atG "is_rate" K) fd := c.df 57 (d := d_is_rate)
theorem wk_is_rate (c : SaysA cks dfs K) (Y : K.In h) (G : h.Ns mainGlobals mg) {fd : FuncData} (F : FunD K "is_rate" "is_rate" (defArgs (top 22)) (defBody (top 22)) (defScope (top 22)) [] [] (atG "is_rate" K) fd) : FnG R.prog w K mg base 3 (atG "is_rate" K) fd ["value"] (spOf K ["value"].length m_is_rate) :=
  fnG_mk (k := 2) F sc_is_rate fun cdv A outer s H E hk tk po => by
  have nd := sc_is_rate.nd
  unfold b_is_rate
  exact (ws_one (w_ret (w_and (w_call (has_is_ratio c Y G) bp_is_ratio (hk.mono (by decide)) tk (wa_cons (w_var 0) wa_nil)) (w_one (w_cmp op_ge cs_int (w_ix hk (w_var 0) w_int) w_int)))))
theorem has_is_rate (c : SaysA cks dfs K) (Y : K.In h) (G : h.Ns mainGlobals mg) : Has R.prog w K mg base "is_rate" (defArgs (top 22)) ["value"] 3 m_is_rate := by
  obtain ⟨fd, F⟩ := fd_is_rate c
  exact ⟨⟨_, fd, _, _, _, ckG_ok Y G (c.ck 83 (f := ckG "is_rate")), wk_is_rate c Y G F, F⟩⟩
theorem fd_row_plus (c : SaysA cks dfs K) : ∃ fd, FunD K "row_plus" "row_plus" (defArgs (top 16)) (defBody (top 16)) (defScope (top 16)) [] [] (atG "row_plus" K) fd := c.df 58 (d := d_row_plus)
theorem wk_row_plus (c : SaysA cks dfs K) (Y : K.In h) (G : h.Ns mainGlobals mg) {fd : FuncData} (F : FunD K "row_plus" "row_plus" (defArgs (top 16)) (defBody (top 16)) (defScope (top 16)) [] [] (atG "row_plus" K) fd) : FnG R.prog w K mg base 4 (atG "row_plus" K) fd ["one", "other"] (spOf K ["one", "other"].length m_row_plus) :=
  fnG_mk (k := 3) F sc_row_plus fun cdv A outer s H E hk tk po => by
  have nd := sc_row_plus.nd
  unfold b_row_plus
  exact (ws_one (w_ret (w_callTy (cr_tup rfl) sn_tup (f_tuple c Y G) rfl (wa_cons (w_lc (own := [("mine", 2), ("its", 3)]) rfl nd (w_zip (f_zip c Y G) (wa_cons (w_var 0) (wa_cons (w_var 1) wa_nil))) (blkOk_by (by kernel_rfl)) (fun _ _ _ _ _ => (wgw_tup rfl (wgws_cons (wgw_name 2 nd) (wgws_cons (wgw_name 3 nd) wgws_nil)))) (fun _ _ _ _ _ => wts_nil) (fun _ _ _ _ _ => (w_call (has_plus c Y G) bp_plus ((Here.blk hk _ _ _ _ _).mono (by decide)) takes_none (wa_cons (w_var 2) (wa_cons (w_var 3) wa_nil))))) wa_nil))))
theorem has_row_plus (c : SaysA cks dfs K) (Y : K.In h) (G : h.Ns mainGlobals mg) : Has R.prog w K mg base "row_plus" (defArgs (top 16)) ["one", "other"] 4 m_row_plus := by
  obtain ⟨fd, F⟩ := fd_row_plus c
  exact ⟨⟨_, fd, _, _, _, ckG_ok Y G (c.ck 84 (f := ckG "row_plus")), wk_row_plus c Y G F, F⟩⟩
theorem fd_row_times (c : SaysA cks dfs K) : ∃ fd, FunD K "row_times" "row_times" (defArgs (top 18)) (defBody (top 18)) (defScope (top 18)) [] [] (atG "row_times" K) fd := c.df 59 (d := d_row_times)
theorem wk_row_times (c : SaysA cks dfs K) (Y : K.In h) (G : h.Ns mainGlobals mg) {fd : FuncData} (F : FunD K "row_times" "row_times" (defArgs (top 18)) (defBody (top 18)) (defScope (top 18)) [] [] (atG "row_times" K) fd) : FnG R.prog w K mg base 4 (atG "row_times" K) fd ["row", "by"] (spOf K ["row", "by"].length m_row_times) :=
  fnG_mk (k := 3) F sc_row_times fun cdv A outer s H E hk tk po => by
  have nd := sc_row_times.nd
  unfold b_row_times
  exact (ws_one (w_ret (w_callTy (cr_tup rfl) sn_tup (f_tuple c Y G) rfl (wa_cons (w_lc (own := [("one", 2)]) rfl nd (w_seq (w_var 0)) (blkOk_by (by kernel_rfl)) (fun _ _ _ _ _ => (wgw_name 2 nd)) (fun _ _ _ _ _ => wts_nil) (fun _ _ _ _ _ => (w_call (has_times c Y G) bp_times ((Here.blk hk _ _ _ _ _).mono (by decide)) takes_none (wa_cons (w_var 2) (wa_cons (w_var 1) wa_nil))))) wa_nil))))
theorem has_row_times (c : SaysA cks dfs K) (Y : K.In h) (G : h.Ns mainGlobals mg) : Has R.prog w K mg base "row_times" (defArgs (top 18)) ["row", "by"] 4 m_row_times := by
  obtain ⟨fd, F⟩ := fd_row_times c
  exact ⟨⟨_, fd, _, _, _, ckG_ok Y G (c.ck 85 (f := ckG "row_times")), wk_row_times c Y G F, F⟩⟩
theorem fd_mixture (c : SaysA cks dfs K) : ∃ fd, FunD K "mixture" "mixture" (defArgs (top 85)) (defBody (top 85)) (defScope (top 85)) [] [] (atG "mixture" K) fd := c.df 60 (d := d_mixture)
theorem wk_mixture (c : SaysA cks dfs K) (Y : K.In h) (G : h.Ns mainGlobals mg) {fd : FuncData} (F : FunD K "mixture" "mixture" (defArgs (top 85)) (defBody (top 85)) (defScope (top 85)) [] [] (atG "mixture" K) fd) : FnG R.prog w K mg base 11 (atG "mixture" K) fd ["net", "one", "other", "share"] (spOf K ["net", "one", "other", "share"].length m_mixture) :=
  fnG_mk (k := 10) F sc_mixture fun cdv A outer s H E hk tk po => by
  have nd := sc_mixture.nd
  unfold b_mixture
  exact (ws_cons (w_expr (w_call (has_check_placement c Y G) bp_check_placement (hk.mono (by decide)) tk (wa_cons (w_var 0) (wa_cons (w_var 1) wa_nil))))
    (ws_cons (w_expr (w_call (has_check_placement c Y G) bp_check_placement (hk.mono (by decide)) tk (wa_cons (w_var 0) (wa_cons (w_var 2) wa_nil))))
    (ws_cons (w_if (wt_or (wt_not (wt_truth (w_call (has_is_rate c Y G) bp_is_rate (hk.mono (by decide)) tk (wa_cons (w_var 3) wa_nil)))) (wt_or1 (wt_truth (w_call (has_is_below c Y G) bp_is_below (hk.mono (by decide)) tk (wa_cons (w_glo (g_ONE c Y G)) (wa_cons (w_var 3) wa_nil)))))).pt (ws_one w_never) ws_nil)
    (ws_cons (w_par rfl nd (wa_cons (w_callB (call_max2 rfl) sn_max (f_max c Y G) rfl (wa_cons (w_call (has_width_of c Y G) bp_width_of (hk.mono (by decide)) tk (wa_cons (w_var 0) (wa_cons (w_var 1) wa_nil))) (wa_cons (w_call (has_width_of c Y G) bp_width_of (hk.mono (by decide)) tk (wa_cons (w_var 0) (wa_cons (w_var 2) wa_nil))) wa_nil))) (wa_cons (w_call (has_less c Y G) bp_less (hk.mono (by decide)) tk (wa_cons (w_glo (g_ONE c Y G)) (wa_cons (w_var 3) wa_nil))) wa_nil)))
    (ws_cons (w_asg (w_lst true wa_nil) (wg_name 6 nd))
    (ws_cons (w_for po rfl (w_zip (f_zip c Y G) (wa_cons (w_var 1) (wa_cons (w_var 2) wa_nil))) (wg_tup rfl (wgs_cons (wg_name 7 nd) (wgs_cons (wg_name 8 nd) wgs_nil))) (ws_one (w_expr (w_bm PySem.F.plainAttrs_list PySem.F.slot_list_append PySem.F.type_list_append mt_append sn_append (w_var 6) (wa_cons (w_call (has_row_plus c Y G) bp_row_plus (hk.mono (by decide)) tk (wa_cons (w_call (has_row_times c Y G) bp_row_times (hk.mono (by decide)) tk (wa_cons (w_call (has_led_on c Y G) bp_led_on (hk.mono (by decide)) tk (wa_cons (w_var 7) (wa_cons (w_var 4) wa_nil))) (wa_cons (w_var 5) wa_nil))) (wa_cons (w_call (has_row_times c Y G) bp_row_times (hk.mono (by decide)) tk (wa_cons (w_call (has_led_on c Y G) bp_led_on (hk.mono (by decide)) tk (wa_cons (w_var 8) (wa_cons (w_var 4) wa_nil))) (wa_cons (w_var 3) wa_nil))) wa_nil))) wa_nil)))))
    (ws_one (w_ret (w_callTy (cr_tup rfl) sn_tup (f_tuple c Y G) rfl (wa_cons (w_var 6) wa_nil))))))))))
theorem has_mixture (c : SaysA cks dfs K) (Y : K.In h) (G : h.Ns mainGlobals mg) : Has R.prog w K mg base "mixture" (defArgs (top 85)) ["net", "one", "other", "share"] 11 m_mixture := by
  obtain ⟨fd, F⟩ := fd_mixture c
  exact ⟨⟨_, fd, _, _, _, ckG_ok Y G (c.ck 86 (f := ckG "mixture")), wk_mixture c Y G F, F⟩⟩
theorem fd_lets (c : SaysA cks dfs K) : ∃ fd, FunD K "lets" "lets" (defArgs (top 82)) (defBody (top 82)) (defScope (top 82)) [] [] (atG "lets" K) fd := c.df 61 (d := d_lets)
theorem wk_lets (c : SaysA cks dfs K) (Y : K.In h) (G : h.Ns mainGlobals mg) {fd : FuncData} (F : FunD K "lets" "lets" (defArgs (top 82)) (defBody (top 82)) (defScope (top 82)) [] [] (atG "lets" K) fd) : FnG R.prog w K mg base 11 (atG "lets" K) fd ["net", "placement"] (spOf K ["net", "placement"].length m_lets) :=
  fnG_mk (k := 10) F sc_lets fun cdv A outer s H E hk tk po => by
  have nd := sc_lets.nd
  unfold b_lets
  exact (ws_cons (w_expr (w_call (has_check_placement c Y G) bp_check_placement (hk.mono (by decide)) tk (wa_cons (w_var 0) (wa_cons (w_var 1) wa_nil))))
    (ws_one (w_ret (w_call (has_loose_by c Y G) bp_loose_by (hk.mono (by decide)) tk (wa_cons (w_var 0) (wa_cons (w_var 1) wa_nil))))))
theorem has_lets (c : SaysA cks dfs K) (Y : K.In h) (G : h.Ns mainGlobals mg) : Has R.prog w K mg base "lets" (defArgs (top 82)) ["net", "placement"] 11 m_lets := by
  obtain ⟨fd, F⟩ := fd_lets c
  exact ⟨⟨_, fd, _, _, _, ckG_ok Y G (c.ck 87 (f := ckG "lets")), wk_lets c Y G F, F⟩⟩
theorem fd_score (c : SaysA cks dfs K) : ∃ fd, FunD K "score" "score" (defArgs (top 83)) (defBody (top 83)) (defScope (top 83)) [] [] (atG "score" K) fd := c.df 62 (d := d_score)
theorem wk_score (c : SaysA cks dfs K) (Y : K.In h) (G : h.Ns mainGlobals mg) {fd : FuncData} (F : FunD K "score" "score" (defArgs (top 83)) (defBody (top 83)) (defScope (top 83)) [] [] (atG "score" K) fd) : FnG R.prog w K mg base 11 (atG "score" K) fd ["net", "placement"] (spOf K ["net", "placement"].length m_score) :=
  fnG_mk (k := 10) F sc_score fun cdv A outer s H E hk tk po => by
  have nd := sc_score.nd
  unfold b_score
  exact (ws_cons (w_expr (w_call (has_check_placement c Y G) bp_check_placement (hk.mono (by decide)) tk (wa_cons (w_var 0) (wa_cons (w_var 1) wa_nil))))
    (ws_one (w_ret (w_call (has_total c Y G) bp_total (hk.mono (by decide)) tk (wa_cons (w_lc (own := [("name", 2), ("row", 3)]) rfl nd (w_zip (f_zip c Y G) (wa_cons (w_prop (has_Net_rings c Y G) bp_Net_rings (hk.mono (by decide)) (w_var 0)) (wa_cons (w_var 1) wa_nil))) (blkOk_by (by kernel_rfl)) (fun _ _ _ _ _ => (wgw_tup rfl (wgws_cons (wgw_name 2 nd) (wgws_cons (wgw_name 3 nd) wgws_nil)))) (fun _ _ _ _ _ => wts_nil) (fun _ _ _ _ _ => (w_call (has_row_product c Y G) bp_row_product ((Here.blk hk _ _ _ _ _).mono (by decide)) takes_none (wa_cons (w_call (has_weight_of c Y G) bp_weight_of ((Here.blk hk _ _ _ _ _).mono (by decide)) takes_none (wa_cons (w_var 0) (wa_cons (w_var 2) wa_nil))) (wa_cons (w_var 3) wa_nil))))) wa_nil)))))
theorem has_score (c : SaysA cks dfs K) (Y : K.In h) (G : h.Ns mainGlobals mg) : Has R.prog w K mg base "score" (defArgs (top 83)) ["net", "placement"] 11 m_score := by
  obtain ⟨fd, F⟩ := fd_score c
  exact ⟨⟨_, fd, _, _, _, ckG_ok Y G (c.ck 88 (f := ckG "score")), wk_score c Y G F, F⟩⟩
theorem fd_between (c : SaysA cks dfs K) : ∃ fd, FunD K "between" "between" (defArgs (top 84)) (defBody (top 84)) (defScope (top 84)) [] [] (atG "between" K) fd := c.df 63 (d := d_between)
theorem wk_between (c : SaysA cks dfs K) (Y : K.In h) (G : h.Ns mainGlobals mg) {fd : FuncData} (F : FunD K "between" "between" (defArgs (top 84)) (defBody (top 84)) (defScope (top 84)) [] [] (atG "between" K) fd) : FnG R.prog w K mg base 11 (atG "between" K) fd ["net", "placement", "one", "other"] (spOf K ["net", "placement", "one", "other"].length m_between) :=
  fnG_mk (k := 10) F sc_between fun cdv A outer s H E hk tk po => by
  have nd := sc_between.nd
  unfold b_between
  exact (ws_cons (w_expr (w_call (has_check_placement c Y G) bp_check_placement (hk.mono (by decide)) tk (wa_cons (w_var 0) (wa_cons (w_var 1) wa_nil))))
    (ws_cons (w_expr (w_call (has_check_name c Y G) bp_check_name (hk.mono (by decide)) tk (wa_cons (w_var 0) (wa_cons (w_var 2) wa_nil))))
    (ws_cons (w_expr (w_call (has_check_name c Y G) bp_check_name (hk.mono (by decide)) tk (wa_cons (w_var 0) (wa_cons (w_var 3) wa_nil))))
    (ws_one (w_ret (w_call (has_square_apart c Y G) bp_square_apart (hk.mono (by decide)) tk (wa_cons (w_var 0) (wa_cons (w_var 1) (wa_cons (w_var 2) (wa_cons (w_var 3) wa_nil))))))))))
theorem has_between (c : SaysA cks dfs K) (Y : K.In h) (G : h.Ns mainGlobals mg) : Has R.prog w K mg base "between" (defArgs (top 84)) ["net", "placement", "one", "other"] 11 m_between := by
  obtain ⟨fd, F⟩ := fd_between c
  exact ⟨⟨_, fd, _, _, _, ckG_ok Y G (c.ck 89 (f := ckG "between")), wk_between c Y G F, F⟩⟩
theorem fd_are_moves (c : SaysA cks dfs K) : ∃ fd, FunD K "are_moves" "are_moves" (defArgs (top 38)) (defBody (top 38)) (defScope (top 38)) [] [] (atG "are_moves" K) fd := c.df 64 (d := d_are_moves)
theorem wk_are_moves (c : SaysA cks dfs K) (Y : K.In h) (G : h.Ns mainGlobals mg) {fd : FuncData} (F : FunD K "are_moves" "are_moves" (defArgs (top 38)) (defBody (top 38)) (defScope (top 38)) [] [] (atG "are_moves" K) fd) : FnG R.prog w K mg base 4 (atG "are_moves" K) fd ["net", "value"] (spOf K ["net", "value"].length m_are_moves) :=
  fnG_mk (k := 3) F sc_are_moves fun cdv A outer s H E hk tk po => by
  have nd := sc_are_moves.nd
  unfold b_are_moves
  exact (ws_cons (w_if (wt_not (wt_truth (w_call (has_is_tuple c Y G) bp_is_tuple (hk.mono (by decide)) tk (wa_cons (w_var 1) (wa_cons (w_callB cr_len sn_len (f_len c Y G) rfl (wa_cons (w_prop (has_Net_rings c Y G) bp_Net_rings (hk.mono (by decide)) (w_var 0)) wa_nil)) (wa_cons (w_callB cr_len sn_len (f_len c Y G) rfl (wa_cons (w_prop (has_Net_rings c Y G) bp_Net_rings (hk.mono (by decide)) (w_var 0)) wa_nil)) wa_nil)))))) (ws_one (w_ret w_bl)) ws_nil)
    (ws_one (w_ret (w_callB (cr_all rfl) sn_all (f_all c Y G) rfl (wa_cons (w_lc (own := [("row", 2)]) rfl nd (w_seq (w_var 1)) (blkOk_by (by kernel_rfl)) (fun _ _ _ _ _ => (wgw_name 2 nd)) (fun _ _ _ _ _ => wts_nil) (fun _ _ _ _ _ => (w_call (has_is_row c Y G) bp_is_row ((Here.blk hk _ _ _ _ _).mono (by decide)) takes_none (wa_cons (w_var 2) (wa_cons (w_prop (has_Net_coords c Y G) bp_Net_coords ((Here.blk hk _ _ _ _ _).mono (by decide)) (w_var 0)) (wa_cons (w_prop (has_Net_coords c Y G) bp_Net_coords ((Here.blk hk _ _ _ _ _).mono (by decide)) (w_var 0)) wa_nil)))))) wa_nil)))))
theorem has_are_moves (c : SaysA cks dfs K) (Y : K.In h) (G : h.Ns mainGlobals mg) : Has R.prog w K mg base "are_moves" (defArgs (top 38)) ["net", "value"] 4 m_are_moves := by
  obtain ⟨fd, F⟩ := fd_are_moves c
  exact ⟨⟨_, fd, _, _, _, ckG_ok Y G (c.ck 90 (f := ckG "are_moves")), wk_are_moves c Y G F, F⟩⟩
theorem fd_moved (c : SaysA cks dfs K) : ∃ fd, FunD K "moved" "moved" (defArgs (top 86)) (defBody (top 86)) (defScope (top 86)) [] [] (atG "moved" K) fd := c.df 65 (d := d_moved)
theorem wk_moved (c : SaysA cks dfs K) (Y : K.In h) (G : h.Ns mainGlobals mg) {fd : FuncData} (F : FunD K "moved" "moved" (defArgs (top 86)) (defBody (top 86)) (defScope (top 86)) [] [] (atG "moved" K) fd) : FnG R.prog w K mg base 6 (atG "moved" K) fd ["net", "moves", "step"] (spOf K ["net", "moves", "step"].length m_moved) :=
  fnG_mk (k := 5) F sc_moved fun cdv A outer s H E hk tk po => by
  have nd := sc_moved.nd
  unfold b_moved
  exact (ws_cons (w_if (wt_not (wt_truth (w_call (has_are_moves c Y G) bp_are_moves (hk.mono (by decide)) tk (wa_cons (w_var 0) (wa_cons (w_var 1) wa_nil))))) (ws_one w_never) ws_nil)
    (ws_cons (w_if (wt_not (wt_truth (w_call (has_is_ratio c Y G) bp_is_ratio (hk.mono (by decide)) tk (wa_cons (w_var 2) wa_nil)))) (ws_one w_never) ws_nil)
    (ws_one (w_ret (w_callTy (cr_tup rfl) sn_tup (f_tuple c Y G) rfl (wa_cons (w_lc (own := [("place", 3), ("row", 4)]) rfl nd (w_zip (f_zip c Y G) (wa_cons (w_call (has_picture c Y G) bp_picture (hk.mono (by decide)) tk (wa_cons (w_var 0) wa_nil)) (wa_cons (w_var 1) wa_nil))) (blkOk_by (by kernel_rfl)) (fun _ _ _ _ _ => (wgw_tup rfl (wgws_cons (wgw_name 3 nd) (wgws_cons (wgw_name 4 nd) wgws_nil)))) (fun _ _ _ _ _ => wts_nil) (fun _ _ _ _ _ => (w_call (has_row_plus c Y G) bp_row_plus ((Here.blk hk _ _ _ _ _).mono (by decide)) takes_none (wa_cons (w_var 3) (wa_cons (w_call (has_row_times c Y G) bp_row_times ((Here.blk hk _ _ _ _ _).mono (by decide)) takes_none (wa_cons (w_var 4) (wa_cons (w_var 2) wa_nil))) wa_nil))))) wa_nil))))))
theorem has_moved (c : SaysA cks dfs K) (Y : K.In h) (G : h.Ns mainGlobals mg) : Has R.prog w K mg base "moved" (defArgs (top 86)) ["net", "moves", "step"] 6 m_moved := by
  obtain ⟨fd, F⟩ := fd_moved c
  exact ⟨⟨_, fd, _, _, _, ckG_ok Y G (c.ck 91 (f := ckG "moved")), wk_moved c Y G F, F⟩⟩
theorem fd__law_are_rows_right (c : SaysA cks dfs K) : ∃ fd, FunD K "_law_are_rows_right" "_law_are_rows_right" (defArgs (top 93)) (defBody (top 93)) (defScope (top 93)) [] [] (atG "_law_are_rows_right" K) fd := c.df 66 (d := d__law_are_rows_right)
theorem wk__law_are_rows_right (c : SaysA cks dfs K) (Y : K.In h) (G : h.Ns mainGlobals mg) {fd : FuncData} (F : FunD K "_law_are_rows_right" "_law_are_rows_right" (defArgs (top 93)) (defBody (top 93)) (defScope (top 93)) [] [] (atG "_law_are_rows_right" K) fd) : FnG R.prog w K mg base 12 (atG "_law_are_rows_right" K) fd ["net", "names"] (spOf K ["net", "names"].length m__law_are_rows_right) :=
  fnG_mk (k := 11) F sc__law_are_rows_right fun cdv A outer s H E hk tk po => by
  have nd := sc__law_are_rows_right.nd
  unfold b__law_are_rows_right
  exact (ws_cons (w_asg (w_var 1) (wg_unp rfl (wgs_cons (wg_name 2 nd) (wgs_cons (wg_name 3 nd) (wgs_cons (wg_name 4 nd) (wgs_cons (wg_name 5 nd) wgs_nil))))))
    (ws_cons (w_par rfl nd (wa_cons (w_call (has_picture c Y G) bp_picture (hk.mono (by decide)) tk (wa_cons (w_var 0) wa_nil)) (wa_cons (w_tup (wa_cons (w_tup (wa_cons (w_tup (wa_cons w_int (wa_cons w_int wa_nil))) (wa_cons (w_tup (wa_cons w_int (wa_cons w_int wa_nil))) wa_nil))) (wa_cons (w_tup (wa_cons (w_tup (wa_cons w_int (wa_cons w_int wa_nil))) (wa_cons (w_tup (wa_cons (w_un un_neg sn_neg w_int) (wa_cons w_int wa_nil))) wa_nil))) wa_nil))) wa_nil)))
    (ws_cons (w_asg (w_tup (wa_cons (w_tup (wa_cons (w_tup (wa_cons w_int (wa_cons w_int wa_nil))) (wa_cons (w_tup (wa_cons w_int (wa_cons w_int wa_nil))) (wa_cons (w_tup (wa_cons w_int (wa_cons w_int wa_nil))) wa_nil)))) (wa_cons (w_tup (wa_cons (w_tup (wa_cons w_int (wa_cons w_int wa_nil))) (wa_cons (w_tup (wa_cons (w_un un_neg sn_neg w_int) (wa_cons w_int wa_nil))) (wa_cons (w_tup (wa_cons w_int (wa_cons w_int wa_nil))) wa_nil)))) wa_nil))) (wg_name 8 nd))
    (ws_cons (w_asg (w_tup (wa_cons (w_tup (wa_cons (w_tup (wa_cons w_int (wa_cons w_int wa_nil))) (wa_cons (w_tup (wa_cons w_int (wa_cons w_int wa_nil))) wa_nil))) (wa_cons (w_tup (wa_cons (w_tup (wa_cons w_int (wa_cons w_int wa_nil))) (wa_cons (w_tup (wa_cons (w_un un_neg sn_neg w_int) (wa_cons w_int wa_nil))) wa_nil))) wa_nil))) (wg_name 9 nd))
    (ws_cons (w_par rfl nd (wa_cons (w_call (has_mixture c Y G) bp_mixture (hk.mono (by decide)) tk (wa_cons (w_var 0) (wa_cons (w_var 6) (wa_cons (w_var 7) (wa_cons (w_tup (wa_cons w_int (wa_cons w_int wa_nil))) wa_nil))))) (wa_cons (w_tup (wa_cons (w_tup (wa_cons (w_tup (wa_cons w_int (wa_cons w_int wa_nil))) (wa_cons (w_tup (wa_cons w_int (wa_cons w_int wa_nil))) wa_nil))) (wa_cons (w_tup (wa_cons (w_tup (wa_cons w_int (wa_cons w_int wa_nil))) (wa_cons (w_tup (wa_cons w_int (wa_cons w_int wa_nil))) wa_nil))) wa_nil))) wa_nil)))
    (ws_cons (w_asg (w_lst true (wa_cons (w_var 6) (wa_cons (w_call (has_is_placement c Y G) bp_is_placement (hk.mono (by decide)) tk (wa_cons (w_var 0) (wa_cons (w_var 6) wa_nil))) (wa_cons (w_call (has_is_placement c Y G) bp_is_placement (hk.mono (by decide)) tk (wa_cons (w_var 0) (wa_cons (w_var 7) wa_nil))) (wa_cons (w_call (has_is_placement c Y G) bp_is_placement (hk.mono (by decide)) tk (wa_cons (w_var 0) (wa_cons (w_var 8) wa_nil))) (wa_cons (w_call (has_is_placement c Y G) bp_is_placement (hk.mono (by decide)) tk (wa_cons (w_var 0) (wa_cons (w_var 9) wa_nil))) wa_nil)))))) (wg_name 12 nd))
    (ws_cons (w_asg (w_lst true (wa_cons (w_tup (wa_cons (w_tup (wa_cons (w_tup (wa_cons w_int (wa_cons w_int wa_nil))) (wa_cons (w_tup (wa_cons w_int (wa_cons w_int wa_nil))) wa_nil))) (wa_cons (w_tup (wa_cons (w_tup (wa_cons w_int (wa_cons w_int wa_nil))) (wa_cons (w_tup (wa_cons (w_un un_neg sn_neg w_int) (wa_cons w_int wa_nil))) wa_nil))) wa_nil))) (wa_cons w_bl (wa_cons w_bl (wa_cons w_bl (wa_cons w_bl wa_nil)))))) (wg_name 13 nd))
    (ws_cons (w_expr (w_bm PySem.F.plainAttrs_list PySem.F.slot_list_extend PySem.F.type_list_extend mt_extend sn_extend (w_var 12) (wa_cons (w_lst false (wa_cons (w_call (has_lets c Y G) bp_lets (hk.mono (by decide)) tk (wa_cons (w_var 0) (wa_cons (w_var 6) wa_nil))) (wa_cons (w_call (has_lets c Y G) bp_lets (hk.mono (by decide)) tk (wa_cons (w_var 0) (wa_cons (w_var 7) wa_nil))) (wa_cons (w_call (has_lets c Y G) bp_lets (hk.mono (by decide)) tk (wa_cons (w_var 0) (wa_cons (w_var 8) wa_nil))) wa_nil)))) wa_nil)))
    (ws_cons (w_expr (w_bm PySem.F.plainAttrs_list PySem.F.slot_list_extend PySem.F.type_list_extend mt_extend sn_extend (w_var 12) (wa_cons (w_lst false (wa_cons (w_call (has_score c Y G) bp_score (hk.mono (by decide)) tk (wa_cons (w_var 0) (wa_cons (w_var 6) wa_nil))) (wa_cons (w_call (has_score c Y G) bp_score (hk.mono (by decide)) tk (wa_cons (w_var 0) (wa_cons (w_var 7) wa_nil))) (wa_cons (w_call (has_score c Y G) bp_score (hk.mono (by decide)) tk (wa_cons (w_var 0) (wa_cons (w_var 8) wa_nil))) wa_nil)))) wa_nil)))
    (ws_cons (w_expr (w_bm PySem.F.plainAttrs_list PySem.F.slot_list_extend PySem.F.type_list_extend mt_extend sn_extend (w_var 13) (wa_cons (w_lst false (wa_cons (w_bin or_mulB (sn_mulB (b := false)) (w_tup (wa_cons (w_tup (wa_cons w_int (wa_cons w_int wa_nil))) wa_nil)) w_int) (wa_cons (w_tup (wa_cons (w_tup (wa_cons w_int (wa_cons w_int wa_nil))) (wa_cons (w_tup (wa_cons w_int (wa_cons w_int wa_nil))) (wa_cons (w_tup (wa_cons w_int (wa_cons w_int wa_nil))) wa_nil)))) (wa_cons (w_tup (wa_cons (w_tup (wa_cons w_int (wa_cons w_int wa_nil))) (wa_cons (w_tup (wa_cons w_int (wa_cons w_int wa_nil))) (wa_cons (w_tup (wa_cons w_int (wa_cons w_int wa_nil))) wa_nil)))) (wa_cons (w_tup (wa_cons w_int (wa_cons w_int wa_nil))) (wa_cons (w_tup (wa_cons w_int (wa_cons w_int wa_nil))) (wa_cons (w_tup (wa_cons w_int (wa_cons w_int wa_nil))) wa_nil))))))) wa_nil)))
    (ws_cons (w_expr (w_bm PySem.F.plainAttrs_list PySem.F.slot_list_extend PySem.F.type_list_extend mt_extend sn_extend (w_var 12) (wa_cons (w_lst false (wa_cons (w_var 10) (wa_cons (w_call (has_lets c Y G) bp_lets (hk.mono (by decide)) tk (wa_cons (w_var 0) (wa_cons (w_var 10) wa_nil))) (wa_cons (w_call (has_score c Y G) bp_score (hk.mono (by decide)) tk (wa_cons (w_var 0) (wa_cons (w_var 10) wa_nil))) (wa_cons (w_call (has_between c Y G) bp_between (hk.mono (by decide)) tk (wa_cons (w_var 0) (wa_cons (w_var 7) (wa_cons (w_var 5) (wa_cons (w_var 3) wa_nil))))) (wa_cons (w_call (has_between c Y G) bp_between (hk.mono (by decide)) tk (wa_cons (w_var 0) (wa_cons (w_var 8) (wa_cons (w_var 2) (wa_cons (w_var 5) wa_nil))))) wa_nil)))))) wa_nil)))
    (ws_cons (w_expr (w_bm PySem.F.plainAttrs_list PySem.F.slot_list_extend PySem.F.type_list_extend mt_extend sn_extend (w_var 13) (wa_cons (w_lst false (wa_cons (w_tup (wa_cons (w_tup (wa_cons (w_tup (wa_cons w_int (wa_cons w_int wa_nil))) (wa_cons (w_tup (wa_cons w_int (wa_cons w_int wa_nil))) wa_nil))) (wa_cons (w_tup (wa_cons (w_tup (wa_cons w_int (wa_cons w_int wa_nil))) (wa_cons (w_tup (wa_cons (w_un un_neg sn_neg w_int) (wa_cons w_int wa_nil))) wa_nil))) wa_nil))) (wa_cons (w_tup (wa_cons (w_tup (wa_cons w_int (wa_cons w_int wa_nil))) (wa_cons (w_tup (wa_cons w_int (wa_cons w_int wa_nil))) (wa_cons (w_tup (wa_cons w_int (wa_cons w_int wa_nil))) wa_nil)))) (wa_cons (w_tup (wa_cons w_int (wa_cons w_int wa_nil))) (wa_cons (w_tup (wa_cons w_int (wa_cons w_int wa_nil))) (wa_cons (w_tup (wa_cons w_int (wa_cons w_int wa_nil))) wa_nil)))))) wa_nil)))
    (ws_cons (w_expr (w_bm PySem.F.plainAttrs_list PySem.F.slot_list_extend PySem.F.type_list_extend mt_extend sn_extend (w_var 12) (wa_cons (w_lst false (wa_cons (w_call (has_moved c Y G) bp_moved (hk.mono (by decide)) tk (wa_cons (w_var 0) (wa_cons (w_var 11) (wa_cons (w_tup (wa_cons w_int (wa_cons w_int wa_nil))) wa_nil)))) (wa_cons (w_call (has_is_placement c Y G) bp_is_placement (hk.mono (by decide)) tk (wa_cons (w_var 0) (wa_cons (w_call (has_moved c Y G) bp_moved (hk.mono (by decide)) tk (wa_cons (w_var 0) (wa_cons (w_var 11) (wa_cons (w_tup (wa_cons (w_un un_neg sn_neg w_int) (wa_cons w_int wa_nil))) wa_nil)))) wa_nil))) wa_nil))) wa_nil)))
    (ws_cons (w_expr (w_bm PySem.F.plainAttrs_list PySem.F.slot_list_append PySem.F.type_list_append mt_append sn_append (w_var 12) (wa_cons (w_ix hk (w_call (has_mixture c Y G) bp_mixture (hk.mono (by decide)) tk (wa_cons (w_var 0) (wa_cons (w_var 6) (wa_cons (w_var 8) (wa_cons (w_tup (wa_cons w_int (wa_cons w_int wa_nil))) wa_nil))))) w_int) wa_nil)))
    (ws_cons (w_expr (w_bm PySem.F.plainAttrs_list PySem.F.slot_list_extend PySem.F.type_list_extend mt_extend sn_extend (w_var 13) (wa_cons (w_lst false (wa_cons (w_var 7) (wa_cons w_bl (wa_cons (w_tup (wa_cons (w_tup (wa_cons w_int (wa_cons w_int wa_nil))) (wa_cons (w_tup (wa_cons (w_un un_neg sn_neg w_int) (wa_cons w_int wa_nil))) (wa_cons (w_tup (wa_cons w_int (wa_cons w_int wa_nil))) wa_nil)))) wa_nil)))) wa_nil)))
    (ws_one (w_ret (w_cmp (or_eq hk) cs_eq (w_callB (cr_repr hk) sn_repr (f_repr c Y G) rfl (wa_cons (w_var 12) wa_nil)) (w_callB (cr_repr hk) sn_repr (f_repr c Y G) rfl (wa_cons (w_var 13) wa_nil))))))))))))))))))))
theorem has__law_are_rows_right (c : SaysA cks dfs K) (Y : K.In h) (G : h.Ns mainGlobals mg) : Has R.prog w K mg base "_law_are_rows_right" (defArgs (top 93)) ["net", "names"] 12 m__law_are_rows_right := by
  obtain ⟨fd, F⟩ := fd__law_are_rows_right c
  exact ⟨⟨_, fd, _, _, _, ckG_ok Y G (c.ck 92 (f := ckG "_law_are_rows_right")), wk__law_are_rows_right c Y G F, F⟩⟩
theorem fd__law_are_calls_right (c : SaysA cks dfs K) : ∃ fd, FunD K "_law_are_calls_right" "_law_are_calls_right" (defArgs (top 94)) (defBody (top 94)) (defScope (top 94)) [] [] (atG "_law_are_calls_right" K) fd := c.df 67 (d := d__law_are_calls_right)
theorem wk__law_are_calls_right (c : SaysA cks dfs K) (Y : K.In h) (G : h.Ns mainGlobals mg) {fd : FuncData} (F : FunD K "_law_are_calls_right" "_law_are_calls_right" (defArgs (top 94)) (defBody (top 94)) (defScope (top 94)) [] [] (atG "_law_are_calls_right" K) fd) : FnG R.prog w K mg base 12 (atG "_law_are_calls_right" K) fd ["net", "names"] (spOf K ["net", "names"].length m__law_are_calls_right) :=
  fnG_mk (k := 11) F sc__law_are_calls_right fun cdv A outer s H E hk tk po => by
  have nd := sc__law_are_calls_right.nd
  unfold b__law_are_calls_right
  exact (ws_cons (w_asg (w_var 1) (wg_unp rfl (wgs_cons (wg_name 2 nd) (wgs_cons (wg_name 3 nd) (wgs_cons (wg_name 4 nd) (wgs_cons (wg_name 5 nd) wgs_nil))))))
    (ws_cons (w_par3 rfl nd (wa_cons (w_call (has_picture c Y G) bp_picture (hk.mono (by decide)) tk (wa_cons (w_var 0) wa_nil)) (wa_cons (w_tup (wa_cons (w_tup (wa_cons (w_tup (wa_cons w_int (wa_cons w_int wa_nil))) (wa_cons (w_tup (wa_cons w_int (wa_cons w_int wa_nil))) wa_nil))) (wa_cons (w_tup (wa_cons (w_tup (wa_cons w_int (wa_cons w_int wa_nil))) (wa_cons (w_tup (wa_cons (w_un un_neg sn_neg w_int) (wa_cons w_int wa_nil))) wa_nil))) wa_nil))) (wa_cons (w_tup (wa_cons (w_tup (wa_cons (w_tup (wa_cons w_int (wa_cons w_int wa_nil))) (wa_cons (w_tup (wa_cons w_int (wa_cons w_int wa_nil))) wa_nil))) (wa_cons (w_tup (wa_cons (w_tup (wa_cons w_int (wa_cons w_int wa_nil))) (wa_cons (w_tup (wa_cons w_int (wa_cons w_int wa_nil))) wa_nil))) wa_nil))) wa_nil))))
    (ws_cons (w_asg (w_lst true (wa_cons (w_tup (wa_cons (w_callK0 (has_place_of c Y G) bk_place_of_0_name_net (hk.mono (by decide)) tk (wk_cons (w_var 4) (wk_cons (w_var 0) wk_nil))) (wa_cons (w_call (has_place_of c Y G) bp_place_of (hk.mono (by decide)) tk (wa_cons (w_var 0) (wa_cons (w_var 4) wa_nil))) wa_nil))) (wa_cons (w_tup (wa_cons (w_callK0 (has_weight_of c Y G) bk_weight_of_0_name_net (hk.mono (by decide)) tk (wk_cons (w_var 4) (wk_cons (w_var 0) wk_nil))) (wa_cons (w_call (has_weight_of c Y G) bp_weight_of (hk.mono (by decide)) tk (wa_cons (w_var 0) (wa_cons (w_var 4) wa_nil))) wa_nil))) wa_nil))) (wg_name 9 nd))
    (ws_cons (w_expr (w_bm PySem.F.plainAttrs_list PySem.F.slot_list_extend PySem.F.type_list_extend mt_extend sn_extend (w_var 9) (wa_cons (w_lst false (wa_cons (w_tup (wa_cons (w_callK0 (has_square_of c Y G) bk_square_of_0_cord_net (hk.mono (by decide)) tk (wk_cons w_int (wk_cons (w_var 0) wk_nil))) (wa_cons (w_call (has_square_of c Y G) bp_square_of (hk.mono (by decide)) tk (wa_cons (w_var 0) (wa_cons w_int wa_nil))) wa_nil))) (wa_cons (w_tup (wa_cons (w_callK0 (has_cords_at c Y G) bk_cords_at_0_name_net (hk.mono (by decide)) tk (wk_cons (w_var 3) (wk_cons (w_var 0) wk_nil))) (wa_cons (w_call (has_cords_at c Y G) bp_cords_at (hk.mono (by decide)) tk (wa_cons (w_var 0) (wa_cons (w_var 3) wa_nil))) wa_nil))) wa_nil))) wa_nil)))
    (ws_cons (w_expr (w_bm PySem.F.plainAttrs_list PySem.F.slot_list_extend PySem.F.type_list_extend mt_extend sn_extend (w_var 9) (wa_cons (w_lst false (wa_cons (w_tup (wa_cons (w_callK0 (has_picture c Y G) bk_picture_0_net (hk.mono (by decide)) tk (wk_cons (w_var 0) wk_nil)) (wa_cons (w_var 6) wa_nil))) (wa_cons (w_tup (wa_cons (w_callK0 (has_is_placement c Y G) bk_is_placement_0_value_net (hk.mono (by decide)) tk (wk_cons (w_var 7) (wk_cons (w_var 0) wk_nil))) (wa_cons w_bl wa_nil))) wa_nil))) wa_nil)))
    (ws_cons (w_expr (w_bm PySem.F.plainAttrs_list PySem.F.slot_list_append PySem.F.type_list_append mt_append sn_append (w_var 9) (wa_cons (w_tup (wa_cons (w_callK0 (has_lets c Y G) bk_lets_0_placement_net (hk.mono (by decide)) tk (wk_cons (w_var 7) (wk_cons (w_var 0) wk_nil))) (wa_cons (w_call (has_lets c Y G) bp_lets (hk.mono (by decide)) tk (wa_cons (w_var 0) (wa_cons (w_var 7) wa_nil))) wa_nil))) wa_nil)))
    (ws_cons (w_expr (w_bm PySem.F.plainAttrs_list PySem.F.slot_list_append PySem.F.type_list_append mt_append sn_append (w_var 9) (wa_cons (w_tup (wa_cons (w_callK0 (has_score c Y G) bk_score_0_placement_net (hk.mono (by decide)) tk (wk_cons (w_var 7) (wk_cons (w_var 0) wk_nil))) (wa_cons (w_call (has_score c Y G) bp_score (hk.mono (by decide)) tk (wa_cons (w_var 0) (wa_cons (w_var 7) wa_nil))) wa_nil))) wa_nil)))
    (ws_cons (w_expr (w_bm PySem.F.plainAttrs_list PySem.F.slot_list_append PySem.F.type_list_append mt_append sn_append (w_var 9) (wa_cons (w_tup (wa_cons (w_callK0 (has_between c Y G) bk_between_0_other_one_placement_net (hk.mono (by decide)) tk (wk_cons (w_var 2) (wk_cons (w_var 5) (wk_cons (w_var 7) (wk_cons (w_var 0) wk_nil))))) (wa_cons (w_call (has_between c Y G) bp_between (hk.mono (by decide)) tk (wa_cons (w_var 0) (wa_cons (w_var 7) (wa_cons (w_var 5) (wa_cons (w_var 2) wa_nil))))) wa_nil))) wa_nil)))
    (ws_cons (w_expr (w_bm PySem.F.plainAttrs_list PySem.F.slot_list_append PySem.F.type_list_append mt_append sn_append (w_var 9) (wa_cons (w_tup (wa_cons (w_callK0 (has_mixture c Y G) bk_mixture_0_share_other_one_net (hk.mono (by decide)) tk (wk_cons (w_tup (wa_cons w_int (wa_cons w_int wa_nil))) (wk_cons (w_var 7) (wk_cons (w_var 6) (wk_cons (w_var 0) wk_nil))))) (wa_cons (w_call (has_mixture c Y G) bp_mixture (hk.mono (by decide)) tk (wa_cons (w_var 0) (wa_cons (w_var 6) (wa_cons (w_var 7) (wa_cons (w_tup (wa_cons w_int (wa_cons w_int wa_nil))) wa_nil))))) wa_nil))) wa_nil)))
    (ws_cons (w_expr (w_bm PySem.F.plainAttrs_list PySem.F.slot_list_append PySem.F.type_list_append mt_append sn_append (w_var 9) (wa_cons (w_tup (wa_cons (w_callK0 (has_moved c Y G) bk_moved_0_step_moves_net (hk.mono (by decide)) tk (wk_cons (w_tup (wa_cons w_int (wa_cons w_int wa_nil))) (wk_cons (w_var 8) (wk_cons (w_var 0) wk_nil)))) (wa_cons (w_call (has_moved c Y G) bp_moved (hk.mono (by decide)) tk (wa_cons (w_var 0) (wa_cons (w_var 8) (wa_cons (w_tup (wa_cons w_int (wa_cons w_int wa_nil))) wa_nil)))) wa_nil))) wa_nil)))
    (ws_one (w_ret (w_callB (cr_all rfl) sn_all (f_all c Y G) rfl (wa_cons (w_lc (own := [("one", 10), ("its", 11)]) rfl nd (w_seq (w_var 9)) (blkOk_by (by kernel_rfl)) (fun _ _ _ _ _ => (wgw_tup rfl (wgws_cons (wgw_name 10 nd) (wgws_cons (wgw_name 11 nd) wgws_nil)))) (fun _ _ _ _ _ => wts_nil) (fun _ _ _ _ _ => (w_cmp (or_eq (Here.blk hk _ _ _ _ _)) cs_eq (w_callB (cr_repr (Here.blk hk _ _ _ _ _)) sn_repr (f_repr c Y G) rfl (wa_cons (w_var 10) wa_nil)) (w_callB (cr_repr (Here.blk hk _ _ _ _ _)) sn_repr (f_repr c Y G) rfl (wa_cons (w_var 11) wa_nil))))) wa_nil))))))))))))))
theorem has__law_are_calls_right (c : SaysA cks dfs K) (Y : K.In h) (G : h.Ns mainGlobals mg) : Has R.prog w K mg base "_law_are_calls_right" (defArgs (top 94)) ["net", "names"] 12 m__law_are_calls_right := by
  obtain ⟨fd, F⟩ := fd__law_are_calls_right c
  exact ⟨⟨_, fd, _, _, _, ckG_ok Y G (c.ck 93 (f := ckG "_law_are_calls_right")), wk__law_are_calls_right c Y G F, F⟩⟩
theorem fd__law_right (c : SaysA cks dfs K) : ∃ fd, FunD K "_law_right" "_law_right" (defArgs (top 95)) (defBody (top 95)) (defScope (top 95)) [] [] (atG "_law_right" K) fd := c.df 68 (d := d__law_right)
theorem wk__law_right (c : SaysA cks dfs K) (Y : K.In h) (G : h.Ns mainGlobals mg) {fd : FuncData} (F : FunD K "_law_right" "_law_right" (defArgs (top 95)) (defBody (top 95)) (defScope (top 95)) [] [] (atG "_law_right" K) fd) : FnG R.prog w K mg base 13 (atG "_law_right" K) fd ["pot"] (spOf K ["pot"].length m__law_right) :=
  fnG_mk (k := 12) F sc__law_right fun cdv A outer s H E hk tk po => by
  have nd := sc__law_right.nd
  unfold b__law_right
  exact (ws_cons (w_asg (w_call (has__law_some c Y G) bp__law_some (hk.mono (by decide)) tk (wa_cons (w_var 0) (wa_cons (w_lst false (wa_cons w_str (wa_cons w_str (wa_cons w_str (wa_cons w_str (wa_cons w_str (wa_cons w_str (wa_cons w_str (wa_cons w_str wa_nil))))))))) (wa_cons w_int wa_nil)))) (wg_name 1 nd))
    (ws_cons (w_asg (w_newK1 (new_Net c Y G) bk1_Net_u_init_u (hk.mono (by decide)) tk (wk_cons (w_call (has__law_text c Y G) bp__law_text (hk.mono (by decide)) tk (wa_cons (w_var 1) wa_nil)) wk_nil)) (wg_name 2 nd))
    (ws_cons (w_if (wt_or (wt_not (wt_truth (w_call (has__law_are_names_right c Y G) bp__law_are_names_right (hk.mono (by decide)) tk (wa_cons (w_var 2) (wa_cons (w_var 1) wa_nil))))) (wt_or1 (wt_not (wt_truth (w_call (has__law_are_rows_right c Y G) bp__law_are_rows_right (hk.mono (by decide)) tk (wa_cons (w_var 2) (wa_cons (w_var 1) wa_nil))))))).pt (ws_one (w_ret w_bl)) ws_nil)
    (ws_one (w_ret (w_call (has__law_are_calls_right c Y G) bp__law_are_calls_right (hk.mono (by decide)) tk (wa_cons (w_var 2) (wa_cons (w_var 1) wa_nil))))))))
theorem has__law_right (c : SaysA cks dfs K) (Y : K.In h) (G : h.Ns mainGlobals mg) : Has R.prog w K mg base "_law_right" (defArgs (top 95)) ["pot"] 13 m__law_right := by
  obtain ⟨fd, F⟩ := fd__law_right c
  exact ⟨⟨_, fd, _, _, _, ckG_ok Y G (c.ck 94 (f := ckG "_law_right")), wk__law_right c Y G F, F⟩⟩
theorem fd__law_pot (c : SaysA cks dfs K) : ∃ fd, FunD K "_law_pot" "_law_pot" (defArgs (top 88)) (defBody (top 88)) (defScope (top 88)) [] [] (atG "_law_pot" K) fd := c.df 69 (d := d__law_pot)
theorem wk__law_pot (c : SaysA cks dfs K) (Y : K.In h) (G : h.Ns mainGlobals mg) {fd : FuncData} (F : FunD K "_law_pot" "_law_pot" (defArgs (top 88)) (defBody (top 88)) (defScope (top 88)) [] [] (atG "_law_pot" K) fd) : FnG R.prog w K mg base 1 (atG "_law_pot" K) fd ["script", "at"] (spOf K ["script", "at"].length m__law_pot) :=
  fnG_mk (k := 0) F sc__law_pot fun cdv A outer s H E hk tk po => by
  have nd := sc__law_pot.nd
  unfold b__law_pot
  exact (ws_cons (w_asg (w_ifE (wt_cmp op_lt cs_int (w_var 1) (w_callB cr_len sn_len (f_len c Y G) rfl (wa_cons (w_var 0) wa_nil))) (w_ix hk (w_var 0) (w_var 1)) (w_bin or_add (sn_add (b := false)) (w_bin or_add (sn_add (b := false)) (w_bin op_mod sn_mod (w_callB (cr_sum rfl) sn_sum (f_sum c Y G) rfl (wa_cons (w_slice false (w_var 0) wo_none (wo_some w_int)) wa_nil)) w_int) (w_bin or_mul sn_mul w_int (w_var 1))) w_int)) (wg_name 2 nd))
    (ws_cons (w_asg (w_bin or_mul sn_mul (w_bin op_mod sn_mod (w_callTy cr_int sn_intc (f_int c Y G) rfl (wa_cons (w_callB call_abs sn_abs (f_abs c Y G) rfl (wa_cons (w_var 2) wa_nil)) wa_nil)) (w_bin op_powW sn_pow (w_bin op_powW sn_pow w_int w_int) w_int)) (w_callTy cr_int sn_intc (f_int c Y G) rfl (wa_cons (w_cmp op_ge cs_int (w_callB call_abs sn_abs (f_abs c Y G) rfl (wa_cons (w_var 2) wa_nil)) (w_bin op_powW sn_pow w_int w_int)) wa_nil))) (wg_name 3 nd))
    (ws_cons (w_asg (w_bin op_mod sn_mod (w_callTy cr_int sn_intc (f_int c Y G) rfl (wa_cons (w_var 2) wa_nil)) w_int) (wg_name 4 nd))
    (ws_one (w_ret (w_lst true (wa_cons (w_var 3) (wa_cons (w_bin op_mod sn_mod (w_callTy cr_int sn_intc (f_int c Y G) rfl (wa_cons (w_bin or_add (sn_add (b := false)) (w_bin or_add (sn_add (b := false)) (w_bin or_mul sn_mul (w_var 4) w_int) (w_bin or_mul sn_mul (w_bin or_mul sn_mul w_int (w_var 1)) (w_var 1))) w_int) wa_nil)) w_int) (wa_cons w_int wa_nil)))))))))
theorem has__law_pot (c : SaysA cks dfs K) (Y : K.In h) (G : h.Ns mainGlobals mg) : Has R.prog w K mg base "_law_pot" (defArgs (top 88)) ["script", "at"] 1 m__law_pot := by
  obtain ⟨fd, F⟩ := fd__law_pot c
  exact ⟨⟨_, fd, _, _, _, ckG_ok Y G (c.ck 95 (f := ckG "_law_pot")), wk__law_pot c Y G F, F⟩⟩
theorem fd_law (c : SaysA cks dfs K) : ∃ fd, FunD K "law" "law" (defArgs (top 96)) (defBody (top 96)) (defScope (top 96)) [] [] (atG "law" K) fd := c.df 70 (d := d_law)
theorem wk_law (c : SaysA cks dfs K) (Y : K.In h) (G : h.Ns mainGlobals mg) {fd : FuncData} (F : FunD K "law" "law" (defArgs (top 96)) (defBody (top 96)) (defScope (top 96)) [] [] (atG "law" K) fd) : FnG R.prog w K mg base 14 (atG "law" K) fd ["script"] (spOf K ["script"].length m_law) :=
  fnG_mk (k := 13) F sc_law fun cdv A outer s H E hk tk po => by
  have nd := sc_law.nd
  unfold b_law
  exact (ws_one (w_ret (w_call (has__law_right c Y G) bp__law_right (hk.mono (by decide)) tk (wa_cons (w_call (has__law_pot c Y G) bp__law_pot (hk.mono (by decide)) tk (wa_cons (w_var 0) (wa_cons w_int wa_nil))) wa_nil))))
theorem has_law (c : SaysA cks dfs K) (Y : K.In h) (G : h.Ns mainGlobals mg) : Has R.prog w K mg base "law" (defArgs (top 96)) ["script"] 14 m_law := by
  obtain ⟨fd, F⟩ := fd_law c
  exact ⟨⟨_, fd, _, _, _, ckG_ok Y G (c.ck 96 (f := ckG "law")), wk_law c Y G F, F⟩⟩
end
end K13w
/-! The end of the law, printed by gen.py. -/
namespace K13w
open PySem PySem.Spec PyProof.Rows L2 AM K13
theorem closes (hm : ∀ ns : List Int, ns.length ≤ 63 → (∀ z ∈ ns, Builtin.Int.intBits z ≤ 1048576) → LawIs m_law ns) : PySem.Challenge.rw_cordsatrest_k13_a_story_by_hand_and_by_n.Holds := by
  w_on; o_law
  refine HandSHeadRun.head_any (r := PySem.W.OpenLaw.row PySem.Challenge.rw_cordsatrest_k13_a_story_by_hand_and_by_n) (q := qv) (H := hkA) (ob := ob) (M := 40000) (loose := loose) (d := HandSHeadRun.topDef (PySem.W.OpenLaw.row PySem.Challenge.rw_cordsatrest_k13_a_story_by_hand_and_by_n).prog 96) (kwd := []) ob_eq
    (by kernel_rfl) (fun s => by kernel_rfl) run (by kernel_rfl) (by kernel_rfl) (by kernel_rfl) (by rfl) (by first | assumption | decide +kernel) (by decide +kernel) ⟨rfl, rfl, rfl, rfl, rfl, by decide +kernel⟩ ?hw ?hc
  case hw => w_witness2
  case hc =>
    refine law_walk (l := PySem.Challenge.rw_cordsatrest_k13_a_story_by_hand_and_by_n) (n := 63) (k := 14) (x := "script") (m := m_law) rfl (by decide) (by kernel_rfl) ⟨rfl, by decide, by decide⟩ ?F hm
    intro w mg fa h Y G hmg0
    obtain ⟨K, KX, c⟩ := Y
    have hmg : mg ("law" : PySem.Str) = some (.ref fa) := by
      have e : (HandSHeadRun.topDef (PySem.W.OpenLaw.row PySem.Challenge.rw_cordsatrest_k13_a_story_by_hand_and_by_n).prog 96).name = ("law" : PySem.Str) := by kernel_rfl
      rw [← e]
      exact hmg0
    obtain ⟨fd, F⟩ := fd_law c
    have e := hmg.symm.trans (ckG_ok KX G (c.ck 96 (f := ckG "law")))
    cases e
    exact ⟨K, fd, KX, c.ck 124 (f := ckL), fun s v => FunD.bindsA (ps := ["script"]) F (fun kV doc pm an cdv ct us hl => bp_law "law" "law" _ _ kV doc pm an cdv ct us hl) s [v] rfl, fun base _ _ => wk_law (w := w) (base := base) c KX G F⟩
end K13w
/-! PU1: what the machine's words say, in plain rules. -/
namespace AM
open PySem PySem.Spec PyProof.Rows L2
noncomputable section
section
variable {α β : Type}
@[simp] theorem Out.bind_ok (a : α) (h : AH) (f : α → AH → Out β) : (Out.ok a h).bind f = f a h := rfl
@[simp] theorem Out.bind_bad (f : α → AH → Out β) : (Out.bad : Out α).bind f = .bad := rfl
@[simp] theorem Out.bind_exc (c : Str) (p : P) (h : AH) (f : α → AH → Out β) : (Out.exc c p h : Out α).bind f = .exc c p h := rfl
@[simp] theorem Out.toS_ok (a : α) (h : AH) (t : AM.Loc) (f : α → AH → OutS) : (Out.ok a h).toS t f = f a h := rfl
@[simp] theorem Out.toS_bad (t : AM.Loc) (f : α → AH → OutS) : (Out.bad : Out α).toS t f = .bad := rfl
@[simp] theorem Out.toS_exc (c : Str) (p : P) (h : AH) (t : AM.Loc) (f : α → AH → OutS) : (Out.exc c p h : Out α).toS t f = .exc c p t h := rfl
@[simp] theorem Out.calm_ok (a : α) (h : AH) : (Out.ok a h).calm = .ok a h := rfl
end
@[simp] theorem OutS.seq_nx (t : AM.Loc) (h : AH) (f : AM.Loc → AH → OutS) : (OutS.nx t h).seq f = f t h := rfl
@[simp] theorem OutS.seq_rt (p : P) (h : AH) (f : AM.Loc → AH → OutS) : (OutS.rt p h).seq f = .rt p h := rfl
@[simp] theorem OutS.seq_bad (f : AM.Loc → AH → OutS) : OutS.bad.seq f = .bad := rfl
@[simp] theorem eV_some {i : Nat} {t : AM.Loc} {h : AH} {p : P} (e : t[i]? = some (some p)) : eV i t h = .ok p h := by unfold eV; rw [e]
@[simp] theorem eC_at (p : P) (t : AM.Loc) (h : AH) : eC p t h = .ok p h := rfl
@[simp] theorem lN_at (t : AM.Loc) (h : AH) : lN t h = .ok [] h := rfl
@[simp] theorem lC_at (m : EM) (r : LM) (t : AM.Loc) (h : AH) : lC m r t h = (m t h).bind fun p h1 => (r t h1).bind fun ps h2 => .ok (p :: ps) h2 := rfl
@[simp] theorem sQ_at (a b : SM) (t : AM.Loc) (h : AH) : sQ a b t h = (a t h).seq b := rfl
@[simp] theorem sNx_at (t : AM.Loc) (h : AH) : sNx t h = .nx t h := rfl
@[simp] theorem sBad_at (t : AM.Loc) (h : AH) : sBad t h = .bad := rfl
@[simp] theorem sR_at (m : EM) (t : AM.Loc) (h : AH) : sR m t h = (m t h).toS t fun p h1 => .rt p h1 := rfl
@[simp] theorem sE_at (m : EM) (t : AM.Loc) (h : AH) : sE m t h = (m t h).toS t fun _ h1 => .nx t h1 := rfl
@[simp] theorem sIf_at (c : TM) (a b : SM) (t : AM.Loc) (h : AH) : sIf c a b t h = (c t h).toS t fun k h1 => if k = true then a t h1 else b t h1 := rfl
@[simp] theorem sA_at (m : EM) (g : GM) (t : AM.Loc) (h : AH) : sA m g t h = (m t h).toS t fun p h1 => match g p t h1 with
  | some th => .nx th.1 th.2
  | none => .bad := rfl
@[simp] theorem gN_at (i : Nat) (p : P) (t : AM.Loc) (h : AH) : gN i p t h = some (t.set i (some p), h) := rfl
@[simp] theorem sPar_at (i j : Nat) (a : LM) (t : AM.Loc) (h : AH) : sPar i j a t h = (a t h).toS t fun xs h1 => match xs with
  | [x, y] => .nx ((t.set i (some x)).set j (some y)) h1
  | _ => .bad := rfl
@[simp] theorem sPar3_at (i j l : Nat) (a : LM) (t : AM.Loc) (h : AH) : sPar3 i j l a t h = (a t h).toS t fun xs h1 => match xs with
  | [x, y, z] => .nx (((t.set i (some x)).set j (some y)).set l (some z)) h1
  | _ => .bad := rfl
@[simp] theorem eB_at (f : F2) (a b : EM) (t : AM.Loc) (h : AH) : eB f a b t h = (a t h).bind fun x h1 => (b t h1).bind fun y h2 => f x y h2 := rfl
@[simp] theorem eU_at (f : F1) (a : EM) (t : AM.Loc) (h : AH) : eU f a t h = (a t h).bind fun x h1 => f x h1 := rfl
@[simp] theorem eCB_at (f : FL) (a : LM) (t : AM.Loc) (h : AH) : eCB f a t h = (a t h).bind fun xs h1 => f xs h1 := rfl
@[simp] theorem eCall_at (n : Nat) (m : Fn) (a : LM) (t : AM.Loc) (h : AH) : eCall n m a t h = (a t h).bind fun xs h1 => if xs.length = n then m xs h1 else .bad := rfl
@[simp] theorem eIf_at (c : TM) (a b : EM) (t : AM.Loc) (h : AH) : eIf c a b t h = (c t h).bind fun k h1 => if k = true then a t h1 else b t h1 := rfl
@[simp] theorem eTup_at (a : LM) (t : AM.Loc) (h : AH) : eTup a t h = (a t h).bind fun xs h1 => if small xs.length = true then .ok (.tup xs) h1 else .bad := rfl
@[simp] theorem eLst_at (b : Bool) (a : LM) (t : AM.Loc) (h : AH) : eLst b a t h = (a t h).bind fun xs h1 => if small xs.length = true then mkL b xs h1 else .bad := rfl
@[simp] theorem mkL_false (xs : List P) (h : AH) : mkL false xs h = .ok (.lst xs) h := rfl
@[simp] theorem mkL_true (xs : List P) (h : AH) : mkL true xs h = .ok (.obj h.length) (h ++ [.lst xs]) := rfl
@[simp] theorem eAn_at (m r : EM) (t : AM.Loc) (h : AH) : eAn m r t h = (m t h).bind fun x h1 => match truthP h1 x with
  | some true => r t h1
  | some false => .ok x h1
  | none => .bad := rfl
@[simp] theorem eOr_at (m r : EM) (t : AM.Loc) (h : AH) : eOr m r t h = (m t h).bind fun x h1 => match truthP h1 x with
  | some false => r t h1
  | some true => .ok x h1
  | none => .bad := rfl
@[simp] theorem eNt_at (m : EM) (t : AM.Loc) (h : AH) : eNt m t h = (m t h).bind fun x h1 => match truthP h1 x with
  | some b => .ok (.bl (!b)) h1
  | none => .bad := rfl
@[simp] theorem eIsi_at (U : String) (m : EM) (t : AM.Loc) (h : AH) : eIsi U m t h = (m t h).bind fun p h1 => match tyP h1 p with
  | some T => .ok (.bl (tyB T U)) h1
  | none => .bad := rfl
@[simp] theorem tT_at (m : EM) (t : AM.Loc) (h : AH) : tT m t h = (m t h).bind fun p h1 => match truthP h1 p with
  | some b => .ok b h1
  | none => .bad := rfl
@[simp] theorem tNt_at (m : TM) (t : AM.Loc) (h : AH) : tNt m t h = (m t h).bind fun b h1 => .ok (!b) h1 := rfl
@[simp] theorem tAn_at (m r : TM) (t : AM.Loc) (h : AH) : tAn m r t h = (m t h).bind fun b h1 => if b = true then r t h1 else .ok false h1 := rfl
@[simp] theorem tOr_at (m r : TM) (t : AM.Loc) (h : AH) : AM.tOr m r t h = (m t h).bind fun b h1 => if b = true then .ok true h1 else r t h1 := rfl
@[simp] theorem tY_at (t : AM.Loc) (h : AH) : tY t h = .ok true h := rfl
@[simp] theorem tCp_at (f : CmpF) (a b : EM) (t : AM.Loc) (h : AH) : tCp f a b t h = (a t h).bind fun x h1 => (b t h1).bind fun y h2 => cmpV f x y h2 := rfl
@[simp] theorem eCmp_at (f : CmpF) (a b : EM) (t : AM.Loc) (h : AH) : eCmp f a b t h = (a t h).bind fun x h1 => (b t h1).bind fun y h2 => (cmpV f x y h2).bind fun k h3 => .ok (.bl k) h3 := rfl
@[simp] theorem tCh_at (f g : CmpF) (a b c : EM) (t : AM.Loc) (h : AH) : tCh f g a b c t h = (a t h).bind fun x h1 => (b t h1).bind fun y h2 => (cmpV f x y h2).bind fun k h3 => if k = true then (c t h3).bind fun z h4 => cmpV g y z h4 else .ok false h3 := rfl
@[simp] theorem eCh_at (f g : CmpF) (a b c : EM) (t : AM.Loc) (h : AH) : eCh f g a b c t h = (tCh f g a b c t h).bind fun k h1 => .ok (.bl k) h1 := rfl
theorem cmpV_some {f : CmpF} {p q : P} {h : AH} {k : Bool} (e : f p q h = some k) : cmpV f p q h = .ok k h := by unfold cmpV; rw [e]
@[simp] theorem cmp_lt (i j : Int) (h : AH) : cmpV ltP (.int i) (.int j) h = .ok (decide (i < j)) h := rfl
@[simp] theorem cmp_le (i j : Int) (h : AH) : cmpV leP (.int i) (.int j) h = .ok (decide (i ≤ j)) h := rfl
@[simp] theorem cmp_gt (i j : Int) (h : AH) : cmpV gtP (.int i) (.int j) h = .ok (decide (j < i)) h := rfl
@[simp] theorem cmp_ge (i j : Int) (h : AH) : cmpV geP (.int i) (.int j) h = .ok (decide (j ≤ i)) h := rfl
@[simp] theorem cmp_eq_str (x y : Str) (h : AH) : cmpV eqP (.str x) (.str y) h = .ok (x == y) h := rfl
@[simp] theorem cmp_ne_str (x y : Str) (h : AH) : cmpV neP (.str x) (.str y) h = .ok (!(x == y)) h := rfl
@[simp] theorem cmp_eq_int (i j : Int) (h : AH) : cmpV eqP (.int i) (.int j) h = .ok (i == j) h := rfl
@[simp] theorem cmp_ne_int (i j : Int) (h : AH) : cmpV neP (.int i) (.int j) h = .ok (!(i == j)) h := rfl
@[simp] theorem cmp_is_non (h : AH) : cmpV isP .non .non h = .ok true h := rfl
@[simp] theorem cmp_is_tup (xs : List P) (h : AH) : cmpV isP (.tup xs) .non h = .ok false h := rfl
@[simp] theorem cmp_is_int (i : Int) (h : AH) : cmpV isP (.int i) .non h = .ok false h := rfl
/-! truth, types -/
@[simp] theorem truth_bl (b : Bool) (h : AH) : truthP h (.bl b) = some b := rfl
@[simp] theorem truth_non (h : AH) : truthP h .non = some false := rfl
@[simp] theorem truth_int (i : Int) (h : AH) : truthP h (.int i) = some (i != 0) := rfl
@[simp] theorem truth_tup (xs : List P) (h : AH) : truthP h (.tup xs) = some (!xs.isEmpty) := rfl
@[simp] theorem truth_lst (xs : List P) (h : AH) : truthP h (.lst xs) = some (!xs.isEmpty) := rfl
@[simp] theorem ty_int (i : Int) (h : AH) : tyP h (.int i) = some "int" := rfl
@[simp] theorem ty_bl (b : Bool) (h : AH) : tyP h (.bl b) = some "bool" := rfl
@[simp] theorem ty_non (h : AH) : tyP h .non = some "NoneType" := rfl
@[simp] theorem ty_str (x : Str) (h : AH) : tyP h (.str x) = some "str" := rfl
@[simp] theorem ty_tup (xs : List P) (h : AH) : tyP h (.tup xs) = some "tuple" := rfl
@[simp] theorem ty_lst (xs : List P) (h : AH) : tyP h (.lst xs) = some "list" := rfl
/-! places -/
@[simp] theorem item_tup (xs : List P) (i : Int) (h : AH) : itemP (.tup xs) (.int i) h = match atI xs i with
  | some p => .ok p h
  | none => .bad := rfl
@[simp] theorem item_lst (xs : List P) (i : Int) (h : AH) : itemP (.lst xs) (.int i) h = match atI xs i with
  | some p => .ok p h
  | none => .bad := rfl
@[simp] theorem item_scr (xs : List P) (i : Int) (h : AH) : itemP (.scr xs) (.int i) h = match atI xs i with
  | some p => .ok p h
  | none => .bad := rfl
theorem atI_nat {α : Type} (xs : List α) (n : Nat) : atI xs (n : Int) = xs[n]? := by
  unfold atI ixN
  rw [if_pos (by omega)]
  by_cases l : n < xs.length
  · rw [if_pos (by omega)]
    simp
  · rw [if_neg (by omega)]
    simp
    omega
@[simp] theorem atI_0 {α : Type} (x : α) (xs : List α) : atI (x :: xs) 0 = some x := by have := atI_nat (x :: xs) 0; simpa using this
@[simp] theorem atI_1 {α : Type} (x y : α) (xs : List α) : atI (x :: y :: xs) 1 = some y := by have := atI_nat (x :: y :: xs) 1; simpa using this
@[simp] theorem atI_2 {α : Type} (x y z : α) (xs : List α) : atI (x :: y :: z :: xs) 2 = some z := by have := atI_nat (x :: y :: z :: xs) 2; simpa using this
/-! numbers -/
@[simp] theorem v_sub (i j : Int) (h : AH) : vSub (.int i) (.int j) h = .ok (.int (i - j)) h := rfl
@[simp] theorem v_neg (i : Int) (h : AH) : vNeg (.int i) h = .ok (.int (-i)) h := rfl
@[simp] theorem v_add (b : Bool) (i j : Int) (h : AH) : vAdd b (.int i) (.int j) h = .ok (.int (i + j)) h := rfl
@[simp] theorem v_mod {i j : Int} (h : AH) (l : 0 < j) : vMod (.int i) (.int j) h = .ok (.int (i % j)) h := by
  show (if decide (0 < j) = true then Out.ok (P.int (i % j)) h else .bad) = _
  rw [if_pos (decide_eq_true l)]
@[simp] theorem f_abs (i : Int) (h : AH) : fAbs [.int i] h = .ok (.int (i.natAbs : Nat)) h := by
  show Out.ok (P.int (if i < 0 then -i else i)) h = _
  congr 2
  split <;> omega
@[simp] theorem f_len_tup (xs : List P) (h : AH) : fLen [.tup xs] h = .ok (.int (xs.length : Nat)) h := rfl
@[simp] theorem f_len_lst (xs : List P) (h : AH) : fLen [.lst xs] h = .ok (.int (xs.length : Nat)) h := rfl
@[simp] theorem f_len_scr (xs : List P) (h : AH) : fLen [.scr xs] h = .ok (.int (xs.length : Nat)) h := rfl
@[simp] theorem f_tup_lst (xs : List P) (h : AH) : fTup [.lst xs] h = .ok (.tup xs) h := rfl
@[simp] theorem f_tup_tup (xs : List P) (h : AH) : fTup [.tup xs] h = .ok (.tup xs) h := rfl
theorem boolsOf_map : ∀ (bs : List Bool), boolsOf (bs.map P.bl) = some bs
  | [] => rfl
  | b :: bs => by
    show (boolsOf (bs.map P.bl)).map (b :: ·) = _
    rw [boolsOf_map bs]
    rfl
@[simp] theorem f_all (bs : List Bool) (h : AH) : fAll [.lst (bs.map P.bl)] h = .ok (.bl (bs.all id)) h := by
  show (match (boolsOf (bs.map P.bl)) with
    | some bs => Out.ok (P.bl (bs.all id)) h
    | none => .bad) = _
  rw [boolsOf_map]
@[simp] theorem f_any (bs : List Bool) (h : AH) : fAny [.lst (bs.map P.bl)] h = .ok (.bl (bs.any id)) h := by
  show (match (boolsOf (bs.map P.bl)) with
    | some bs => Out.ok (P.bl (bs.any id)) h
    | none => .bad) = _
  rw [boolsOf_map]
/-- bits -/
theorem log2_lt {n b : Nat} (hb : 0 < b) (h : n < 2 ^ b) : n.log2 < b := by
  by_cases e : n = 0
  · subst e
    have z : Nat.log2 0 = 0 := by decide
    rw [z]
    exact hb
  · exact (Nat.log2_lt e).mpr h
theorem v_mul {i j : Int} (h : AH) (l : mulOk i j = true) : vMul (.int i) (.int j) h = .ok (.int (i * j)) h := by
  show (match (if mulOk i j = true then Out.ok (P.int (i * j)) h else .bad) with
    | .bad => vMulT (.int i) (.int j) h
    | o => o) = _
  rw [if_pos l]
theorem v_div {i j : Int} (h : AH) (l : 0 < j) (m : j.natAbs.log2 < 9000) : vDiv (.int i) (.int j) h = .ok (.int (i / j)) h := by
  show (if divOk i j = true then Out.ok (P.int (i / j)) h else .bad) = _
  rw [if_pos (by unfold divOk; rw [decide_eq_true l, decide_eq_true m]; rfl)]
/-! lists of slots -/
@[simp] theorem still_none (xs : List P) (h0 h : AH) : Src.still ⟨xs, []⟩ h0 h ↔ True := by unfold Src.still; simp
@[simp] theorem small_true {n : Nat} (h : n ≤ 16777216) : small n = true := decide_eq_true h
end
end AM

/-! PU2: loops, comprehensions, defs. -/
namespace AM
open PySem PySem.Spec PyProof.Rows L2
noncomputable section
/-! ### defs -/
theorem fn_rt {ns : Nat} {b : SM} {xs : List P} {h : AH} {p : P} {j : AH} (e : b (xs.map some ++ List.replicate (ns - xs.length) none) h = .rt p (h ++ j)) (c : clean h.length p = true) : mkFn ns b xs h = .ok p h := by
  unfold mkFn
  rw [e]
  show Out.ok p (trim h p (h ++ j)) = _
  rw [trim_app c]
theorem fn_rt0 {ns : Nat} {b : SM} {xs : List P} {h : AH} {p : P} (e : b (xs.map some ++ List.replicate (ns - xs.length) none) h = .rt p h) : mkFn ns b xs h = .ok p h := by
  unfold mkFn
  rw [e]
  show Out.ok p (trim h p h) = _
  rw [trim_self]
theorem fn_nx {ns : Nat} {b : SM} {xs : List P} {h : AH} {t : AM.Loc} {j : AH} (e : b (xs.map some ++ List.replicate (ns - xs.length) none) h = .nx t (h ++ j)) : mkFn ns b xs h = .ok .non h := by
  unfold mkFn
  rw [e]
  show Out.ok P.non (trim h .non (h ++ j)) = _
  rw [trim_app rfl]
theorem fn_nx0 {ns : Nat} {b : SM} {xs : List P} {h : AH} {t : AM.Loc} (e : b (xs.map some ++ List.replicate (ns - xs.length) none) h = .nx t h) : mkFn ns b xs h = .ok .non h := fn_nx (j := []) (by simpa using e)
/-! ### what holds no object -/
theorem clean_any {p : P} (c : clean 0 p = true) (n : Nat) : clean n p = true := clean_mono (Nat.zero_le n) c
theorem cleans_any {p : List P} (c : cleans 0 p = true) (n : Nat) : cleans n p = true := cleans_mono (Nat.zero_le n) c
theorem cleans_all {n : Nat} : ∀ {ps : List P}, (∀ p ∈ ps, clean n p = true) → cleans n ps = true
  | [], _ => rfl
  | p :: ps, h => by
    show (clean n p && cleans n ps) = true
    rw [h p (List.mem_cons_self ..), cleans_all fun q hq => h q (List.mem_cons_of_mem _ hq)]
    rfl
/-! ### comprehensions -/
theorem lcok_app {n : Nat} {acc : List P} {h j : AH} (l : h.length = n) : LcOk n acc h (h ++ [.lst acc] ++ j) := by
  refine ⟨?_, shut_app _ _⟩
  rw [List.append_assoc, List.getElem?_append_right (by omega), l]
  simp
theorem lcok_self {n : Nat} {acc : List P} {h : AH} (l : h.length = n) : LcOk n acc h (h ++ [.lst acc]) := by simpa using lcok_app (j := []) l
/-- a comprehension whose items leave the heap as it is, but for new objects of no use -/
theorem lc_run {α : Type} {S : Src} {h : AH} {g : GM} {c : TM} {e : EM} {t : AM.Loc} (k : α → P) (f : α → Option P) (hS : ∀ acc, S.still h (h ++ [.lst acc])) :
    ∀ {ys : List α} {acc : List P}, (∀ y ∈ ys, ∀ acc : List P, ∃ t1, g (k y) t (h ++ [.lst acc]) = some (t1, h ++ [.lst acc]) ∧
      match f y with
      | none => ∃ j, c t1 (h ++ [.lst acc]) = .ok false (h ++ [.lst acc] ++ j)
      | some q => ∃ j l, c t1 (h ++ [.lst acc]) = .ok true (h ++ [.lst acc] ++ j) ∧ e t1 (h ++ [.lst acc] ++ j) = .ok q (h ++ [.lst acc] ++ l) ∧ clean h.length q = true) →
    acc.length + ys.length ≤ 16777216 → lcF S h g c e t (ys.map k) acc h = .ok (.lst (acc ++ ys.filterMap f)) h
  | [], acc, _, _ => by
    show lcF S h g c e t [] acc h = _
    unfold lcF
    rw [if_pos ⟨hS acc, shut_app _ _⟩]
    simp
  | y :: ys, acc, H, L => by
    have L' : acc.length + (ys.length + 1) ≤ 16777216 := L
    obtain ⟨t1, e1, e2⟩ := H y (List.mem_cons_self ..) acc
    have tk : ∀ j : AH, (h ++ [O.lst acc] ++ j).take h.length = h := fun j => by rw [List.append_assoc]; simp
    show lcF S h g c e t (k y :: ys.map k) acc h = _
    unfold lcF
    rw [if_pos (hS acc), e1]
    dsimp only
    cases q : f y with
    | none =>
      rw [q] at e2
      obtain ⟨j, e3⟩ := e2
      rw [e3]
      dsimp only
      rw [if_pos (lcok_app rfl), tk, lc_run k f hS (fun p hp => H p (List.mem_cons_of_mem _ hp)) (by omega), List.filterMap_cons, q]
    | some r =>
      rw [q] at e2
      obtain ⟨j, l, e3, e4, e5⟩ := e2
      rw [e3]
      dsimp only
      rw [e4]
      dsimp only
      rw [if_pos ⟨lcok_app rfl, e5, by omega⟩, tk, lc_run k f hS (fun p hp => H p (List.mem_cons_of_mem _ hp)) (by simp; omega), List.filterMap_cons, q]
      simp
/-- .. as a map -/
theorem lc_map {α : Type} {ys : List α} {h : AH} {g : GM} {e : EM} {t : AM.Loc} (k f : α → P) (L : ys.length ≤ 16777216) (H : ∀ y ∈ ys, ∀ acc : List P, ∃ t1 j, g (k y) t (h ++ [.lst acc]) = some (t1, h ++ [.lst acc]) ∧ e t1 (h ++ [.lst acc]) = .ok (f y) (h ++ [.lst acc] ++ j) ∧ clean h.length (f y) = true) :
    lcF ⟨ys.map k, []⟩ h g tY e t (ys.map k) [] h = .ok (.lst (ys.map f)) h := by
  rw [lc_run k (fun p => some (f p)) (fun acc => (still_none _ _ _).mpr trivial) (fun p hp acc => ?_) (by simpa using L)]
  · simp
  · obtain ⟨t1, j, e1, e2, e3⟩ := H p hp acc
    exact ⟨t1, e1, [], j, by simp, by simpa using e2, e3⟩
/-- .. in which no heap is touched -/
theorem lc_map0 {α : Type} {ys : List α} {h : AH} {g : GM} {e : EM} {t : AM.Loc} (k f : α → P) (L : ys.length ≤ 16777216) (H : ∀ y ∈ ys, ∀ hh : AH, ∃ t1, g (k y) t hh = some (t1, hh) ∧ e t1 hh = .ok (f y) hh ∧ clean h.length (f y) = true) :
    lcF ⟨ys.map k, []⟩ h g tY e t (ys.map k) [] h = .ok (.lst (ys.map f)) h := lc_map k f L fun y hy acc => by
  obtain ⟨t1, e1, e2, e3⟩ := H y hy (h ++ [.lst acc])
  exact ⟨t1, [], e1, by simpa using e2, e3⟩
@[simp] theorem gT2 (r : GMs) (a b : P) (t : AM.Loc) (h : AH) : gT 2 r (.tup [a, b]) t h = r [a, b] t h := rfl
@[simp] theorem gT3 (r : GMs) (a b c : P) (t : AM.Loc) (h : AH) : gT 3 r (.tup [a, b, c]) t h = r [a, b, c] t h := rfl
@[simp] theorem gU2 (r : GMs) (a b : P) (t : AM.Loc) (h : AH) : gU 2 r (.tup [a, b]) t h = r [a, b] t h := rfl
theorem eLc_at (i : IM) (vs : List Nat) (g : GM) (c : TM) (e : EM) (t : AM.Loc) (h : AH) : eLc i vs g c e t h = (i t h).bind fun S h1 => lcF S h1 g c e (wipeL t vs) S.xs [] h1 := rfl
@[simp] theorem iSeq_at (m : EM) (t : AM.Loc) (h : AH) : iSeq m t h = (m t h).bind srcSeq := rfl
@[simp] theorem iZp_at (a : LM) (t : AM.Loc) (h : AH) : iZp a t h = (a t h).bind srcZp := rfl
@[simp] theorem iEn_at (a : LM) (t : AM.Loc) (h : AH) : iEn a t h = (a t h).bind srcEn := rfl
@[simp] theorem iRg1_at (a : LM) (t : AM.Loc) (h : AH) : iRg1 a t h = (a t h).bind srcR1 := rfl
@[simp] theorem src_tup (xs : List P) (h : AH) : srcSeq (.tup xs) h = .ok ⟨xs, []⟩ h := rfl
@[simp] theorem src_lst (xs : List P) (h : AH) : srcSeq (.lst xs) h = .ok ⟨xs, []⟩ h := rfl
@[simp] theorem src_str (x : Str) (h : AH) : srcSeq (.str x) h = .ok ⟨x.cps.toList.map fun c => P.str ⟨#[c]⟩, []⟩ h := rfl
@[simp] theorem src_zip_tup (xs ys : List P) (h : AH) : srcZp [.tup xs, .tup ys] h = .ok ⟨zipP xs ys, []⟩ h := rfl
@[simp] theorem src_zip_lst (xs ys : List P) (h : AH) : srcZp [.lst xs, .lst ys] h = .ok ⟨zipP xs ys, []⟩ h := rfl
@[simp] theorem src_en_tup (xs : List P) (h : AH) : srcEn [.tup xs] h = .ok ⟨enumP 0 xs, []⟩ h := rfl
@[simp] theorem src_en_lst (xs : List P) (h : AH) : srcEn [.lst xs] h = .ok ⟨enumP 0 xs, []⟩ h := rfl
@[simp] theorem wipeL_nil (t : AM.Loc) : wipeL t [] = t := rfl
@[simp] theorem wipeL_cons (t : AM.Loc) (v : Nat) (vs : List Nat) : wipeL t (v :: vs) = (wipeL t vs).set v none := rfl
theorem gT_at (n : Nat) (r : GMs) (xs : List P) (t : AM.Loc) (h : AH) (l : xs.length = n) : gT n r (.tup xs) t h = r xs t h := by
  show (if xs.length = n then r xs t h else none) = _
  rw [if_pos l]
@[simp] theorem gsC_at (g : GM) (r : GMs) (p : P) (ps : List P) (t : AM.Loc) (h : AH) : gsC g r (p :: ps) t h = (g p t h).bind fun th => r ps th.1 th.2 := rfl
@[simp] theorem gsN_at (t : AM.Loc) (h : AH) : gsN [] t h = some (t, h) := rfl
/-! ### for -/
/-- a loop whose turns come to an end with the slots and heap that a relation tells -/
theorem for_run {S : Src} {h0 : AH} {g : GM} {b : SM} (R : List P → AM.Loc → AH → Prop) (hS : ∀ xs t h, R xs t h → S.still h0 h)
    (hc : ∀ p ps t h, R (p :: ps) t h → ∃ t1 h1 t2 h2, g p t h = some (t1, h1) ∧ (b t1 h1 = .nx t2 h2 ∨ b t1 h1 = .ct t2 h2) ∧ R ps t2 h2) :
    ∀ {xs : List P} {t : AM.Loc} {h : AH}, R xs t h → ∃ t2 h2, R [] t2 h2 ∧ forP S h0 g b xs t h = .nx t2 h2
  | [], t, h, r => ⟨t, h, r, by unfold forP; rw [if_pos (hS _ _ _ r)]⟩
  | p :: xs, t, h, r => by
    obtain ⟨t1, h1, t2, h2, e1, e2, r2⟩ := hc p xs t h r
    obtain ⟨t3, h3, r3, e3⟩ := for_run R hS hc r2
    refine ⟨t3, h3, r3, ?_⟩
    unfold forP
    rw [if_pos (hS _ _ _ r), e1]
    dsimp only
    rcases e2 with e2 | e2
    · rw [e2]
      exact e3
    · rw [e2]
      exact e3
@[simp] theorem sFor_at (i : IM) (g : GM) (b : SM) (t : AM.Loc) (h : AH) : sFor i g b t h = (i t h).toS t fun S h1 => forP S h1 g b S.xs t h1 := rfl
/-! ### while -/
theorem while_run {c : TM} {b : SM} (R : Nat → AM.Loc → AH → Prop) (hc : ∀ n t h, R n t h → (∃ h1, c t h = .ok false h1 ∧ h1 = h ∧ n = 0) ∨ ∃ h1 t2 h2 m, c t h = .ok true h1 ∧ (b t h1 = .nx t2 h2 ∨ b t h1 = .ct t2 h2) ∧ m < n ∧ R m t2 h2) :
    ∀ (n : Nat) {t : AM.Loc} {h : AH}, R n t h → ∃ t2 h2, R 0 t2 h2 ∧ c t2 h2 = .ok false h2 ∧ sWhile c b t h = .nx t2 h2 := by
  have main : ∀ (n : Nat) {t : AM.Loc} {h : AH}, R n t h → ∃ k t2 h2, R 0 t2 h2 ∧ c t2 h2 = .ok false h2 ∧ whN c b k t h = .nx t2 h2 := by
    intro n
    induction n using Nat.strongRecOn with
    | _ n ih =>
      intro t h r
      rcases hc n t h r with ⟨h1, e, rfl, rfl⟩ | ⟨h1, t2, h2, m, e, e2, l, r2⟩
      · refine ⟨1, t, h1, r, e, ?_⟩
        unfold whN
        rw [e]
        rfl
      · obtain ⟨k, t3, h3, r3, e3, e4⟩ := ih m l r2
        refine ⟨k + 1, t3, h3, r3, e3, ?_⟩
        unfold whN
        rw [e]
        show (b t h1).turn (whN c b k) = _
        rcases e2 with e2 | e2
        · rw [e2]
          exact e4
        · rw [e2]
          exact e4
  intro n t h r
  obtain ⟨k, t2, h2, r2, e, e2⟩ := main n r
  refine ⟨t2, h2, r2, e, ?_⟩
  rw [sWhile_at (n := k) (by rw [e2]; exact fun z => by cases z), e2]
end
end AM

/-! PU3: fractions in plain Lean. -/
namespace AM
open PySem PySem.Spec PyProof.Rows L2
abbrev Fr := Int × Int
def ratP (x : Fr) : P := .tup [.int x.1, .int x.2]
def rowP (r : List Fr) : P := .tup (r.map ratP)
def fr (a b : Int) : Fr := (a / (Int.gcd a b : Nat), b / (Int.gcd a b : Nat))
structure FrOk (n : Nat) (x : Fr) : Prop where
  pos : 0 < x.2
  top : x.1.natAbs < 2 ^ n
  bot : x.2.natAbs < 2 ^ n
  low : Int.gcd x.1 x.2 = 1
def plusF (x y : Fr) : Fr := fr (x.1 * y.2 + y.1 * x.2) (x.2 * y.2)
def lessF (x y : Fr) : Fr := fr (x.1 * y.2 - y.1 * x.2) (x.2 * y.2)
def timesF (x y : Fr) : Fr := fr (x.1 * y.1) (x.2 * y.2)
def belowF (x y : Fr) : Bool := decide (x.1 * y.2 < y.1 * x.2)
def totalF (r : List Fr) : Fr := r.foldl plusF (0, 1)
def zipF (f : Fr → Fr → Fr) (r s : List Fr) : List Fr := (r.zip s).map fun z => f z.1 z.2
def rowPlus (r s : List Fr) : List Fr := zipF plusF r s
def rowLess (r s : List Fr) : List Fr := zipF lessF r s
def rowTimes (r : List Fr) (b : Fr) : List Fr := r.map fun x => timesF x b
def rowProd (r s : List Fr) : Fr := totalF (zipF timesF r s)
def rowSq (r : List Fr) : Fr := rowProd r r
def RowOk (n : Nat) (r : List Fr) : Prop := ∀ x ∈ r, FrOk n x
theorem FrOk.mono {n m : Nat} {x : Fr} (h : FrOk n x) (l : n ≤ m) : FrOk m x := by
  have z : 2 ^ n ≤ 2 ^ m := Nat.pow_le_pow_right (by omega) l
  exact ⟨h.pos, Nat.lt_of_lt_of_le h.top z, Nat.lt_of_lt_of_le h.bot z, h.low⟩
theorem RowOk.mono {n m : Nat} {r : List Fr} (h : RowOk n r) (l : n ≤ m) : RowOk m r := fun x hx => (h x hx).mono l
theorem log2_le {n b : Nat} (h : n < 2 ^ b) : n.log2 ≤ b := by
  by_cases e : n = 0
  · subst e
    have z : Nat.log2 0 = 0 := by decide
    rw [z]
    omega
  · exact Nat.le_of_lt ((Nat.log2_lt e).mpr h)
theorem mulOk_of {i j : Int} {n m : Nat} (hi : i.natAbs < 2 ^ n) (hj : j.natAbs < 2 ^ m) (l : n + m < 1000000) : mulOk i j = true := by
  have a := log2_le hi
  have b := log2_le hj
  exact decide_eq_true (by omega)
theorem mul_lt {a b n m : Nat} (ha : a < 2 ^ n) (hb : b < 2 ^ m) : a * b < 2 ^ (n + m) := by
  rw [Nat.pow_add]
  exact Nat.mul_lt_mul'' ha hb
theorem fr_ok {a b : Int} {n : Nat} (hb : 0 < b) (ha : a.natAbs < 2 ^ n) (hb2 : b.natAbs < 2 ^ n) : FrOk n (fr a b) := by
  have g0 : 0 < Int.gcd a b := Int.gcd_pos_of_ne_zero_right _ (by omega)
  have d1 : (Int.gcd a b : Int) ∣ a := Int.gcd_dvd_left ..
  have d2 : (Int.gcd a b : Int) ∣ b := Int.gcd_dvd_right ..
  unfold fr
  refine ⟨?_, ?_, ?_, ?_⟩
  · exact Int.ediv_pos_of_pos_of_dvd hb (by omega) d2
  · rw [Int.natAbs_ediv_of_dvd d1]
    exact Nat.lt_of_le_of_lt (Nat.div_le_self _ _) ha
  · rw [Int.natAbs_ediv_of_dvd d2]
    exact Nat.lt_of_le_of_lt (Nat.div_le_self _ _) hb2
  · exact Int.gcd_ediv_gcd_ediv_gcd g0
theorem FrOk.plus {n m : Nat} {x y : Fr} (hx : FrOk n x) (hy : FrOk m y) : FrOk (n + m + 1) (plusF x y) := by
  have e1 := mul_lt hx.top hy.bot
  have e2 := mul_lt hy.top hx.bot
  have e3 := mul_lt hx.bot hy.bot
  rw [Nat.add_comm m n] at e2
  refine fr_ok (Int.mul_pos hx.pos hy.pos) ?_ ?_
  · have z := Int.natAbs_add_le (x.1 * y.2) (y.1 * x.2)
    rw [Int.natAbs_mul, Int.natAbs_mul] at z
    rw [Nat.pow_succ]
    omega
  · rw [Int.natAbs_mul, Nat.pow_succ]
    omega
theorem FrOk.less {n m : Nat} {x y : Fr} (hx : FrOk n x) (hy : FrOk m y) : FrOk (n + m + 1) (lessF x y) := by
  have e1 := mul_lt hx.top hy.bot
  have e2 := mul_lt hy.top hx.bot
  have e3 := mul_lt hx.bot hy.bot
  rw [Nat.add_comm m n] at e2
  refine fr_ok (Int.mul_pos hx.pos hy.pos) ?_ ?_
  · have z := Int.natAbs_sub_le (x.1 * y.2) (y.1 * x.2)
    rw [Int.natAbs_mul, Int.natAbs_mul] at z
    rw [Nat.pow_succ]
    omega
  · rw [Int.natAbs_mul, Nat.pow_succ]
    omega
theorem FrOk.times {n m : Nat} {x y : Fr} (hx : FrOk n x) (hy : FrOk m y) : FrOk (n + m) (timesF x y) := by
  have e1 := mul_lt hx.top hy.top
  have e3 := mul_lt hx.bot hy.bot
  refine fr_ok (Int.mul_pos hx.pos hy.pos) ?_ ?_
  · rw [Int.natAbs_mul]
    exact e1
  · rw [Int.natAbs_mul]
    exact e3
theorem nought_ok : FrOk 1 (0, 1) := ⟨by decide, by decide, by decide, by decide⟩
theorem foldl_ok {n : Nat} : ∀ {r : List Fr} {m : Nat} {x : Fr}, FrOk m x → RowOk n r → FrOk (m + r.length * (n + 1)) (r.foldl plusF x)
  | [], m, x, h, _ => by simpa using h
  | y :: r, m, x, h, k => by
    have z := foldl_ok (n := n) (r := r) (h.plus (k y (List.mem_cons_self ..))) fun q hq => k q (List.mem_cons_of_mem _ hq)
    refine z.mono ?_
    rw [List.length_cons, Nat.succ_mul]
    omega
theorem total_ok {n : Nat} {r : List Fr} (h : RowOk n r) : FrOk (1 + r.length * (n + 1)) (totalF r) := foldl_ok nought_ok h
theorem zipWith_ok {n m k : Nat} {f : Fr → Fr → Fr} {r s : List Fr} (hr : RowOk n r) (hs : RowOk m s) (hf : ∀ x y, FrOk n x → FrOk m y → FrOk k (f x y)) : RowOk k (zipF f r s) := by
  intro x hx
  obtain ⟨⟨a, b⟩, hab, rfl⟩ := List.mem_map.mp hx
  have := List.of_mem_zip hab
  exact hf a b (hr a this.1) (hs b this.2)
theorem RowOk.plus {n m : Nat} {r s : List Fr} (hr : RowOk n r) (hs : RowOk m s) : RowOk (n + m + 1) (rowPlus r s) := zipWith_ok hr hs fun _ _ a b => a.plus b
theorem RowOk.less {n m : Nat} {r s : List Fr} (hr : RowOk n r) (hs : RowOk m s) : RowOk (n + m + 1) (rowLess r s) := zipWith_ok hr hs fun _ _ a b => a.less b
theorem RowOk.times {n m : Nat} {r : List Fr} {b : Fr} (hr : RowOk n r) (hb : FrOk m b) : RowOk (n + m) (rowTimes r b) := by
  intro x hx
  obtain ⟨a, ha, rfl⟩ := List.mem_map.mp hx
  exact (hr a ha).times hb
theorem rowProd_ok {n m : Nat} {r s : List Fr} (hr : RowOk n r) (hs : RowOk m s) : FrOk (1 + r.length * (n + m + 1)) (rowProd r s) := by
  refine (total_ok (zipWith_ok hr hs fun _ _ a b => a.times b)).mono ?_
  unfold zipF
  rw [List.length_map, List.length_zip]
  have : min r.length s.length * (n + m + 1) ≤ r.length * (n + m + 1) := Nat.mul_le_mul_right _ (Nat.min_le_left _ _)
  omega
theorem zipP_map {α β : Type} (f : α → P) (g : β → P) : ∀ (r : List α) (s : List β), zipP (r.map f) (s.map g) = (r.zip s).map fun xy => .tup [f xy.1, g xy.2]
  | [], _ => by simp [zipP]
  | _ :: _, [] => by simp [zipP]
  | x :: r, y :: s => by
    rw [List.map_cons, List.map_cons, List.zip_cons_cons, List.map_cons]
    show _ :: zipP (r.map f) (s.map g) = _
    rw [zipP_map f g r s]
theorem clean_rat (n : Nat) (x : Fr) : clean n (ratP x) = true := rfl
theorem clean_row (n : Nat) (r : List Fr) : clean n (rowP r) = true := by
  show cleans n (r.map ratP) = true
  refine cleans_all fun p hp => ?_
  obtain ⟨x, _, rfl⟩ := List.mem_map.mp hp
  rfl
theorem row_len (r : List Fr) : (r.map ratP).length = r.length := List.length_map ..
end AM

/-! PU4: texts in plain rules. -/
namespace AM
open PySem PySem.Spec PyProof.Rows L2
noncomputable section
theorem slice_str {b : Bool} {w : Str} {lo hi : Option Int} {h : AH} (l : w.length ≤ 16777216) : sliceP b (.str w) lo hi h = .ok (.str (cutS w lo hi)) h := by
  show (if small w.length = true then Out.ok (P.str (cutS w lo hi)) h else .bad) = _
  rw [if_pos (small_true l)]
theorem len_str {w : Str} {h : AH} (l : w.length ≤ 16777216) : fLen [.str w] h = .ok (.int (w.length : Nat)) h := by
  show (if small w.length = true then Out.ok (P.int (w.length : Nat)) h else .bad) = _
  rw [if_pos (small_true l)]
theorem item_str {w : Str} {i : Int} {c : Nat} {h : AH} (l : w.length ≤ 16777216) (e : atI w.cps.toList i = some c) : itemP (.str w) (.int i) h = .ok (.str ⟨#[c]⟩) h := by
  show (if small w.length = true then (match atI w.cps.toList i with
      | some c => Out.ok (P.str ⟨#[c]⟩) h
      | none => .bad) else .bad) = _
  rw [if_pos (small_true l), e]
def inStr (x y : Str) : Bool := !(Builtin.Str.occurrences y x 0 y.length 1).isEmpty
@[simp] theorem cmp_in_str (x y : Str) (h : AH) : cmpV inP (.str x) (.str y) h = .ok (inStr x y) h := rfl
@[simp] theorem eSlice_at (b : Bool) (m : EM) (lo hi : OM) (t : AM.Loc) (h : AH) : eSlice b m lo hi t h = (m t h).bind fun x h1 => (lo t h1).bind fun l h2 => (hi t h2).bind fun u h3 => sliceP b x l u h3 := rfl
@[simp] theorem oN_at (t : AM.Loc) (h : AH) : oN t h = .ok none h := rfl
@[simp] theorem oS_at (m : EM) (t : AM.Loc) (h : AH) : oS m t h = (m t h).bind fun p h1 => match p with
  | .int i => .ok (some i) h1
  | _ => .bad := rfl
@[simp] theorem slice_tup (b : Bool) (xs : List P) (lo hi : Option Int) (h : AH) : sliceP b (.tup xs) lo hi h = .ok (.tup (cutP xs lo hi)) h := rfl
@[simp] theorem slice_lst (b : Bool) (xs : List P) (lo hi : Option Int) (h : AH) : sliceP b (.lst xs) lo hi h = mkL b (cutP xs lo hi) h := rfl
@[simp] theorem eM1_at (f : F2) (a b : EM) (t : AM.Loc) (h : AH) : eM1 f a b t h = (a t h).bind fun x h1 => match x with
  | .str _ => (b t h1).bind fun y h2 => f x y h2
  | _ => .bad := rfl
theorem split_str {b : Bool} {w c : Str} {h : AH} (l : w.length + 2 ≤ 16777216) (k : (c.length == 0) = false) : fSplit b (.str w) (.str c) h = mkL b ((Txt.split w c).map P.str) h := by
  show (if (c.length == 0) = false ∧ w.length + 2 ≤ 16777216 then mkL b ((Txt.split w c).map P.str) h else .bad) = _
  rw [if_pos ⟨k, l⟩]
theorem int_str {w : Str} {n : Int} {h : AH} (e : PySem.intText? w = some n) (l : w.length ≤ 640) : fInt [.str w] h = .ok (.int n) h := by
  show (match PySem.intText? w with
    | some n => if w.length ≤ 640 then Out.ok (P.int n) h else .bad
    | none => .bad) = _
  rw [e]
  show (if w.length ≤ 640 then Out.ok (P.int n) h else .bad) = _
  rw [if_pos l]
/-- cuts of texts and lists -/
theorem cutP_from (xs : List P) (n : Nat) : cutP xs (some (n : Int)) none = xs.drop n := by
  unfold cutP
  have e1 : HT.sIx xs.length 0 (some (n : Int)) = min n xs.length := by
    unfold HT.sIx
    simp
    omega
  have e2 : HT.sIx xs.length xs.length none = xs.length := rfl
  rw [e1, e2]
  by_cases l : n ≤ xs.length
  · rw [Nat.min_eq_left l]
    rw [List.take_of_length_le]
    rw [List.length_drop]
    omega
  · rw [Nat.min_eq_right (by omega), List.drop_eq_nil_of_le (Nat.le_refl _), List.drop_eq_nil_of_le (by omega)]
    simp
theorem cutP_upto (xs : List P) (n : Nat) : cutP xs none (some (n : Int)) = xs.take n := by
  unfold cutP
  have e1 : HT.sIx xs.length 0 none = 0 := rfl
  have e2 : HT.sIx xs.length xs.length (some (n : Int)) = min n xs.length := by
    unfold HT.sIx
    simp
    omega
  rw [e1, e2, List.drop_zero, Nat.sub_zero]
  by_cases l : n ≤ xs.length
  · rw [Nat.min_eq_left l]
  · rw [Nat.min_eq_right (by omega), List.take_of_length_le (Nat.le_refl _), List.take_of_length_le (by omega)]
/-- a whole number's text -/
def figs (w : Str) : Str := if cutS w none (some 1) = ("-" : Str) then cutS w (some 1) none else w
def figsOk (f : Str) : Bool := decide (1 ≤ (f.length : Int)) && decide ((f.length : Int) ≤ 4000) && (f.cps.toList.map fun c => inStr ⟨#[c]⟩ "0123456789").all id
def zeroBad (w : Str) : Bool := match atI (figs w).cps.toList 0 with
  | some c => (⟨#[c]⟩ : Str) == "0" && !(w == ("0" : Str))
  | none => false
def wholeO (w : Str) : Option Int := if figsOk (figs w) = true ∧ zeroBad w = false then PySem.intText? w else none
def optI : Option Int → P
  | some i => .int i
  | none => .non
theorem cutS_len (w : Str) (lo hi : Option Int) : (cutS w lo hi).length ≤ w.length := by
  show (cutS w lo hi).cps.size ≤ w.cps.size
  unfold cutS
  first
    | (simp; omega)
    | simp
end
end AM

/-! PU5: objects of the heap in plain rules. -/
namespace AM
open PySem PySem.Spec PyProof.Rows L2
noncomputable section
theorem insOf_obj {h : AH} {n : Nat} {C : Str} {fs : List (Option P)} (e : h[n]? = some (.ins C fs)) : insOf h (.obj n) = some (n, C, fs) := by
  show (match h[n]? with
    | some (.ins C fs) => some (n, C, fs)
    | _ => none) = _
  rw [e]
theorem eSlot_of {C : Str} {i n : Nat} {o : EM} {t : AM.Loc} {h h1 : AH} {fs : List (Option P)} {p : P} (e : o t h = .ok (.obj n) h1) (e2 : h1[n]? = some (.ins C fs)) (e3 : fs[i]? = some (some p)) : eSlot C i o t h = .ok p h1 := by
  unfold eSlot
  rw [e]
  simp [insOf_obj e2, e3]
theorem eProp_of {C : Str} {m : Fn} {n : Nat} {o : EM} {t : AM.Loc} {h h1 h2 : AH} {fs : List (Option P)} {p : P} (e : o t h = .ok (.obj n) h1) (e2 : h1[n]? = some (.ins C fs)) (e3 : m [.obj n] h1 = .ok p h2) : eProp C m o t h = .ok p h2 := by
  unfold eProp
  rw [e]
  simp [insOf_obj e2, e3]
theorem eMeth_of {C : Str} {k n : Nat} {m : Fn} {o : EM} {a : LM} {t : AM.Loc} {h h1 h2 : AH} {fs : List (Option P)} {xs : List P} (e : o t h = .ok (.obj n) h1) (e2 : h1[n]? = some (.ins C fs)) (e3 : a t h1 = .ok xs h2) (l : xs.length + 1 = k) : eMeth C k m o a t h = m (.obj n :: xs) h2 := by
  unfold eMeth
  rw [e]
  simp [insOf_obj e2, e3, l]
theorem fLenO_of {C : Str} {m : Fn} {n : Nat} {h h1 : AH} {fs : List (Option P)} {k : Nat} (e2 : h[n]? = some (.ins C fs)) (e3 : m [.obj n] h = .ok (.int (k : Nat)) h1) (l : k < 1000000) : fLenO C m [.obj n] h = .ok (.int (k : Nat)) h1 := by
  show (match insOf h (.obj n) with
    | some (_, D, _) => if D = C then (m [.obj n] h).calm.bind fun r h2 => match r with
      | P.int n => if 0 ≤ n ∧ n < 1000000 then Out.ok (P.int n) h2 else .bad
      | _ => .bad else .bad
    | none => fLen [.obj n] h) = _
  rw [insOf_obj e2]
  dsimp only
  rw [if_pos rfl, e3]
  have c : 0 ≤ (k : Int) ∧ (k : Int) < 1000000 := ⟨by omega, by omega⟩
  rw [Out.calm_ok, Out.bind_ok]
  dsimp only
  simp only [c, and_self, if_true]
theorem len_dct {h : AH} {n : Nat} {kvs : List (Key × P)} (e : h[n]? = some (.dct kvs)) : fLen [.obj n] h = .ok (.int kvs.length) h := by
  have s1 : seqOf h (.obj n) = none := by
    show (match h[n]? with
      | some (.lst xs) => some xs
      | _ => none) = none
    rw [e]
  have s2 : dctOf h (.obj n) = some kvs := by
    show (match h[n]? with
      | some (.dct kvs) => some kvs
      | _ => none) = some kvs
    rw [e]
  show (match seqOf h (.obj n) with
    | some xs => Out.ok (P.int xs.length) h
    | none => (match dctOf h (.obj n) with
      | some kvs => .ok (.int kvs.length) h
      | none => .bad)) = _
  rw [s1, s2]
/-! dicts -/
theorem getP_map {α : Type} (f : α → P) (x : Str) : ∀ l : List (Str × α), getP (l.map fun z => ((Sum.inr z.1 : Key), f z.2)) (.inr x) = (l.lookup x).map f
  | [] => rfl
  | (y, a) :: l => by
    have ih := getP_map f x l
    unfold getP at ih ⊢
    by_cases e : y = x
    · subst e
      simp [List.lookup]
    · have e2 : (x == y) = false := beq_eq_false_iff_ne.mpr (Ne.symm e)
      rw [List.lookup_cons, e2]
      simp only [List.map_cons, List.find?_cons]
      rw [show decide ((Sum.inr y : Key) = .inr x) = false from decide_eq_false fun z => e (Sum.inr.inj z)]
      exact ih
theorem cmp_in_dct {h : AH} {n : Nat} {kvs : List (Key × P)} {x : Str} (e : h[n]? = some (.dct kvs)) : cmpV inP (.str x) (.obj n) h = .ok (getP kvs (.inr x)).isSome h := by
  refine cmpV_some ?_
  show (match h[n]? with
    | some (.dct kvs) => (keyOf (.str x)).map fun k => (getP kvs k).isSome
    | _ => _) = _
  rw [e]
  rfl
theorem item_dct {h : AH} {n : Nat} {kvs : List (Key × P)} {x : Str} {p : P} (e : h[n]? = some (.dct kvs)) (g : getP kvs (.inr x) = some p) : itemP (.obj n) (.str x) h = .ok p h := by
  have d : isDct h (.obj n) = true := by
    show (match h[n]? with
      | some (.dct _) => true
      | _ => false) = true
    rw [e]
  unfold itemP
  rw [if_pos d]
  show (match h[n]? with
    | some (.dct kvs) => (match keyOf (.str x) with
      | some k => (match getP kvs k with
        | some p => Out.ok p h
        | none => .bad)
      | none => .bad)
    | _ => .bad) = _
  rw [e]
  show (match getP kvs (.inr x) with
    | some p => Out.ok p h
    | none => .bad) = _
  rw [g]
theorem tup_dct {h : AH} {n : Nat} {kvs : List (Key × P)} (e : h[n]? = some (.dct kvs)) : fTup [.obj n] h = .ok (.tup (kvs.map fun kv : Key × P => keyP kv.1)) h := by
  have s1 : seqOf h (.obj n) = none := by
    show (match h[n]? with
      | some (.lst xs) => some xs
      | _ => none) = none
    rw [e]
  have s2 : dctOf h (.obj n) = some kvs := by
    show (match h[n]? with
      | some (.dct kvs) => some kvs
      | _ => none) = some kvs
    rw [e]
  show (match seqOf h (.obj n) with
    | some xs => Out.ok (P.tup xs) h
    | none => (match dctOf h (.obj n) with
      | some kvs => .ok (.tup (kvs.map fun kv : Key × P => keyP kv.1)) h
      | none => .bad)) = _
  rw [s1, s2]
theorem tupD_dct {h : AH} {n : Nat} {kvs : List (Key × P)} (e : h[n]? = some (.dct kvs)) : fTupD [.obj n] h = .ok (.tup (kvs.map fun kv : Key × P => keyP kv.1)) h := by
  have s2 : dctOf h (.obj n) = some kvs := by
    show (match h[n]? with
      | some (.dct kvs) => some kvs
      | _ => none) = some kvs
    rw [e]
  show (match dctOf h (.obj n) with
      | some kvs => Out.ok (P.tup (kvs.map fun kv : Key × P => keyP kv.1)) h
      | none => .bad) = _
  rw [s2]
/-! flat things in tuples -/
theorem flat_strs : ∀ xs : List Str, (xs.map P.str).all flatP = true
  | [] => rfl
  | _ :: xs => by
    rw [List.map_cons, List.all_cons, flat_strs xs]
    rfl
theorem cmp_in_strs (x : Str) (xs : List Str) (h : AH) : cmpV inP (.str x) (.tup (xs.map P.str)) h = .ok (decide (x ∈ xs)) h := by
  refine cmpV_some ?_
  show (if flatP (.str x) = true ∧ (xs.map P.str).all flatP = true then some ((xs.map P.str).any fun y => PyData.eqv (flatD y) (flatD (.str x))) else none) = _
  rw [if_pos ⟨rfl, flat_strs xs⟩, List.any_map]
  congr 1
  induction xs with
  | nil => rfl
  | cons y ys ih =>
    rw [List.any_cons, ih]
    show ((y == x) || decide (x ∈ ys)) = _
    by_cases e : y = x
    · subst e
      simp
    · have e2 : (y == x) = false := beq_eq_false_iff_ne.mpr e
      rw [e2]
      simp [Ne.symm e]
@[simp] theorem lS_at (m : EM) (r : LM) (t : AM.Loc) (h : AH) : lS m r t h = (m t h).bind fun p h1 => match p with
  | .tup xs => (r t h1).bind fun ys h2 => .ok (xs ++ ys) h2
  | .lst xs => (r t h1).bind fun ys h2 => .ok (xs ++ ys) h2
  | .obj n => (match h1[n]? with
    | some (.lst xs) => (r t h1).bind fun ys h2 => .ok (xs ++ ys) h2
    | _ => .bad)
  | _ => .bad := rfl
theorem idx_strs {x : Str} {xs : List Str} (hx : x ∈ xs) : idxS (xs.map P.str) (.str x) = some (xs.idxOf x) := by
  have s : ∀ ys : List Str, strsOf (ys.map P.str) = some ys := by
    intro ys
    induction ys with
    | nil => rfl
    | cons y ys ih =>
      show (strsOf (ys.map P.str)).map (y :: ·) = _
      rw [ih]
      rfl
  show (strsOf (xs.map P.str)).bind (fun zs => if zs.idxOf x < zs.length then some (zs.idxOf x) else none) = _
  rw [s]
  show (if xs.idxOf x < xs.length then some (xs.idxOf x) else none) = _
  rw [if_pos (List.idxOf_lt_length_of_mem hx)]
/-! a heap with more behind it -/
theorem get_app {h j : AH} {n : Nat} {o : O} (e : h[n]? = some o) : (h ++ j)[n]? = some o := by
  rw [List.getElem?_append_left (List.getElem?_eq_some_iff.mp e).1]
  exact e
end
end AM

/-! PU6: lists that grow in loops. -/
namespace AM
open PySem PySem.Spec PyProof.Rows L2
noncomputable section
theorem objL_last {h : AH} {acc : List P} : objL (h ++ [.lst acc]) (.obj h.length) = some (h.length, acc) := by
  show (match (h ++ [O.lst acc])[h.length]? with
    | some (.lst xs) => some (h.length, xs)
    | _ => none) = _
  simp
theorem append_last {h : AH} {acc : List P} {y : P} (l : acc.length < 16777216) : mAppend (.obj h.length) [y] (h ++ [.lst acc]) = .ok .non (h ++ [.lst (acc ++ [y])]) := by
  unfold mAppend
  rw [objL_last]
  dsimp only
  rw [if_pos l]
  congr 1
  simp
theorem extend_last {h : AH} {acc ys : List P} (l : acc.length + ys.length ≤ 16777216) : mExtend (.obj h.length) [.lst ys] (h ++ [.lst acc]) = .ok .non (h ++ [.lst (acc ++ ys)]) := by
  unfold mExtend
  rw [objL_last]
  show (if small (acc.length + ys.length) = true then _ else _) = _
  rw [if_pos (small_true l)]
  congr 1
  simp
theorem isTy_last {h : AH} {acc : List P} : isTy (h ++ [.lst acc]) "list" (.obj h.length) = true := by
  show (match (h ++ [O.lst acc])[h.length]? with
    | some (.lst _) => ("list" : String) == "list"
    | some (.dct _) => ("list" : String) == "dict"
    | _ => false) = true
  simp
@[simp] theorem eBM_at (T : String) (f : MF) (mo : EM) (a : LM) (t : AM.Loc) (h : AH) : eBM T f mo a t h = (mo t h).bind fun x h1 => if isTy h1 T x = true then (a t h1).bind fun xs h2 => f x xs h2 else .bad := rfl
theorem tup_last {h : AH} {acc : List P} : fTup [.obj h.length] (h ++ [.lst acc]) = .ok (.tup acc) (h ++ [.lst acc]) := by
  have s1 : seqOf (h ++ [.lst acc]) (.obj h.length) = some acc := by
    show (match (h ++ [O.lst acc])[h.length]? with
      | some (.lst xs) => some xs
      | _ => none) = _
    simp
  show (match seqOf (h ++ [.lst acc]) (.obj h.length) with
    | some xs => Out.ok (P.tup xs) (h ++ [O.lst acc])
    | none => _) = _
  rw [s1]
/-- for y in ys: found.append(f y) -/
theorem for_append {α : Type} {S : Src} {h0 h : AH} {g : GM} {b : SM} (I : AM.Loc → Prop) (k f : α → P) (hS : S.w = []) :
    ∀ {ys : List α} {acc : List P} {t : AM.Loc}, I t → (∀ y ∈ ys, ∀ t acc, I t → acc.length ≤ 100000 → ∃ t1 t2, g (k y) t (h ++ [.lst acc]) = some (t1, h ++ [.lst acc]) ∧ b t1 (h ++ [.lst acc]) = .nx t2 (h ++ [.lst (acc ++ [f y])]) ∧ I t2) → acc.length + ys.length ≤ 100000 →
      ∃ t2, I t2 ∧ forP S h0 g b (ys.map k) t (h ++ [.lst acc]) = .nx t2 (h ++ [.lst (acc ++ ys.map f)])
  | [], acc, t, i, _, _ => ⟨t, i, by
    show forP S h0 g b [] t (h ++ [.lst acc]) = _
    unfold forP
    rw [if_pos (by unfold Src.still; rw [hS]; simp)]
    simp⟩
  | y :: ys, acc, t, i, H, L => by
    have L' : acc.length + (ys.length + 1) ≤ 100000 := L
    obtain ⟨t1, t2, e1, e2, i2⟩ := H y (List.mem_cons_self ..) t acc i (by omega)
    obtain ⟨t3, i3, e3⟩ := for_append (acc := acc ++ [f y]) I k f hS i2 (fun z hz => H z (List.mem_cons_of_mem _ hz)) (by simp; omega)
    refine ⟨t3, i3, ?_⟩
    show forP S h0 g b (k y :: ys.map k) t (h ++ [.lst acc]) = _
    unfold forP
    rw [if_pos (by unfold Src.still; rw [hS]; simp), e1]
    dsimp only
    rw [e2]
    dsimp only
    rw [e3]
    simp
/-! enumerate -/
def enumF {α : Type} (k : Nat) : List α → List (Nat × α)
  | [] => []
  | x :: xs => (k, x) :: enumF (k + 1) xs
theorem enumP_map {α : Type} (f : α → P) : ∀ (xs : List α) (k : Nat), enumP k (xs.map f) = (enumF k xs).map fun z => .tup [.int (z.1 : Nat), f z.2]
  | [], _ => rfl
  | x :: xs, k => by
    show _ :: enumP (k + 1) (xs.map f) = _ :: (enumF (k + 1) xs).map _
    rw [enumP_map f xs (k + 1)]
theorem enumF_len {α : Type} : ∀ (xs : List α) (k : Nat), (enumF k xs).length = xs.length
  | [], _ => rfl
  | _ :: xs, k => by
    show (enumF (k + 1) xs).length + 1 = xs.length + 1
    rw [enumF_len xs]
theorem enumF_mem {α : Type} : ∀ {xs : List α} {k : Nat} {z : Nat × α}, z ∈ enumF k xs → k ≤ z.1 ∧ xs[z.1 - k]? = some z.2
  | [], _, _, h => by cases h
  | x :: xs, k, z, h => by
    rcases List.mem_cons.mp h with rfl | h
    · simp
    · obtain ⟨a, b⟩ := enumF_mem h
      refine ⟨by omega, ?_⟩
      have e : z.1 - k = (z.1 - (k + 1)) + 1 := by omega
      rw [e]
      simpa using b
end
end AM

/-! PU7: data of placements. -/
namespace AM
open PySem PySem.Spec PyProof.Rows L2
noncomputable section
def plP (pl : List (List Fr)) : P := .tup (pl.map rowP)
def ratD (x : Fr) : PyData := .tuple [.int x.1, .int x.2]
def rowD (r : List Fr) : PyData := .tuple (r.map ratD)
def plD (pl : List (List Fr)) : PyData := .tuple (pl.map rowD)
theorem datas_map {α : Type} {g : Nat → Option PyData} (f : α → P) (d : α → PyData) (e : ∀ a, dataP g (f a) = some (d a)) : ∀ l : List α, datasP g (l.map f) = some (l.map d)
  | [] => rfl
  | a :: l => by
    rw [List.map_cons, List.map_cons]
    unfold datasP
    rw [e a, datas_map f d e l]
theorem dat_rat (g : Nat → Option PyData) (x : Fr) : dataP g (ratP x) = some (ratD x) := rfl
theorem dat_row (g : Nat → Option PyData) (r : List Fr) : dataP g (rowP r) = some (rowD r) := by
  show (datasP g (r.map ratP)).map PyData.tuple = _
  rw [datas_map ratP ratD (dat_rat g)]
  rfl
theorem dat_pl (h : AH) (pl : List (List Fr)) : dat h (plP pl) = some (plD pl) := by
  show (datasP (resolve h 4) (pl.map rowP)).map PyData.tuple = _
  rw [datas_map rowP rowD (dat_row _)]
  rfl
theorem lay_map {α : Type} (d : α → PyData) (e : ∀ a, (d a).canLay0 = true) : ∀ l : List α, PyData.canLayAll0 (l.map d) = true
  | [] => rfl
  | a :: l => by
    rw [List.map_cons]
    unfold PyData.canLayAll0
    rw [e a, lay_map d e l]
    rfl
theorem depth_map {α : Type} (d : α → PyData) (k : Nat) (e : ∀ a, (d a).depth ≤ k) : ∀ l : List α, PyData.depthAll (l.map d) ≤ k
  | [] => Nat.zero_le _
  | a :: l => by
    rw [List.map_cons]
    unfold PyData.depthAll
    exact Nat.max_le.mpr ⟨e a, depth_map d k e l⟩
theorem lay_rat (x : Fr) : (ratD x).canLay0 = true := rfl
theorem lay_row (r : List Fr) : (rowD r).canLay0 = true := by
  unfold rowD PyData.canLay0
  exact lay_map _ lay_rat r
theorem depth_rat (x : Fr) : (ratD x).depth ≤ 1 := by
  unfold ratD PyData.depth
  simp [PyData.depthAll, PyData.depth]
theorem depth_row (r : List Fr) : (rowD r).depth ≤ 2 := by
  unfold rowD PyData.depth
  have := depth_map ratD 1 depth_rat r
  omega
theorem shaped_row (r : List Fr) : SeqAt.shaped (rowD r) = true := by
  unfold SeqAt.shaped
  rw [lay_row, decide_eq_true (by have := depth_row r; omega)]
  rfl
theorem shaped_pl (pl : List (List Fr)) : SeqAt.shaped (plD pl) = true := by
  unfold SeqAt.shaped
  have l : (plD pl).canLay0 = true := by
    unfold plD PyData.canLay0
    exact lay_map _ lay_row pl
  have dp : (plD pl).depth ≤ 64 := by
    unfold plD PyData.depth
    have := depth_map rowD 2 depth_row pl
    omega
  rw [l, decide_eq_true dp]
  rfl
theorem eq_dat {p q : P} {h : AH} {d e : PyData} (h1 : dat h p = some d) (h2 : dat h q = some e) (s1 : SeqAt.shaped d = true) (s2 : SeqAt.shaped e = true) (np : ∀ x, p ≠ .str x) : cmpV eqP p q h = .ok (PyData.eqv d e) h := by
  refine cmpV_some ?_
  unfold eqP
  split
  · rename_i x y
    exact absurd rfl (np x)
  · rw [h1, h2]
    dsimp only
    rw [if_pos ⟨s1, s2⟩]
theorem ne_dat {p q : P} {h : AH} {d e : PyData} (h1 : dat h p = some d) (h2 : dat h q = some e) (s1 : SeqAt.shaped d = true) (s2 : SeqAt.shaped e = true) (np : ∀ x, p ≠ .str x) : cmpV neP p q h = .ok (!PyData.eqv d e) h := by
  refine cmpV_some ?_
  have z := eq_dat h1 h2 s1 s2 np
  have z2 : eqP p q h = some (PyData.eqv d e) := by
    unfold cmpV at z
    split at z
    · rename_i k e
      cases z
      exact e
    · cases z
  unfold neP
  rw [z2]
  rfl
theorem pl_ne_empty (pl : List (List Fr)) (h : AH) : cmpV neP (plP pl) (.tup []) h = .ok (!pl.isEmpty) h := by
  rw [ne_dat (dat_pl h pl) (show dat h (.tup []) = some (.tuple []) from rfl) (shaped_pl pl) (by decide) (fun x z => by cases z)]
  cases pl with
  | nil => rfl
  | cons r pl => rfl
theorem cleans_rows (n : Nat) (pl : List (List Fr)) : cleans n (pl.map rowP) = true := cleans_all fun p hp => by
  obtain ⟨r, _, rfl⟩ := List.mem_map.mp hp
  exact clean_row n r
end
end AM

/-! PU8: a heap that is written to. -/
namespace AM
open PySem PySem.Spec PyProof.Rows L2
noncomputable section
theorem trim_len {h0 h : AH} {p : P} (l : h.length = h0.length) : trim h0 p h = h := by
  unfold trim
  split
  · rw [List.take_of_length_le (by omega)]
  · rfl
theorem shut_set {h0 j : AH} {k : Nat} {o : O} (c : cleanO h0.length o = true) : Shut h0 (h0.set k o ++ j) := fun i o2 hi e => by
  rw [List.getElem?_append_left (by simpa using hi), List.getElem?_set] at e
  split at e
  · split at e
    · cases e
      exact .inr c
    · cases e
  · exact .inl e
theorem trim_set {h0 j : AH} {k : Nat} {o : O} {p : P} (c : cleanO h0.length o = true) (cp : clean h0.length p = true) : trim h0 p (h0.set k o ++ j) = h0.set k o := by
  unfold trim
  rw [if_pos ⟨cp, shut_set c⟩, List.take_append_of_le_length (by simp), List.take_of_length_le (by simp)]
theorem fn_set {ns : Nat} {b : SM} {xs : List P} {h : AH} {p : P} {k : Nat} {o : O} {j : AH} (e : b (xs.map some ++ List.replicate (ns - xs.length) none) h = .rt p (h.set k o ++ j)) (c : cleanO h.length o = true) (cp : clean h.length p = true) : mkFn ns b xs h = .ok p (h.set k o) := by
  unfold mkFn
  rw [e]
  show Out.ok p (trim h p (h.set k o ++ j)) = _
  rw [trim_set c cp]
/-- an instance that keeps new objects is not forgotten -/
theorem trim_keep {h0 h : AH} {k : Nat} {o o2 : O} {p : P} (l : k < h0.length) (e : h[k]? = some o) (e2 : h0[k]? = some o2) (ne : o2 ≠ o) (c : cleanO h0.length o = false) : trim h0 p h = h := by
  unfold trim
  rw [if_neg]
  rintro ⟨_, s⟩
  rcases s k o l e with z | z
  · rw [e2] at z
    exact ne (Option.some.inj z)
  · rw [c] at z
    cases z
theorem append_at {h : AH} {n : Nat} {xs : List P} {y : P} (e : h[n]? = some (.lst xs)) (l : xs.length < 16777216) : mAppend (.obj n) [y] h = .ok .non (h.set n (.lst (xs ++ [y]))) := by
  have z : objL h (.obj n) = some (n, xs) := by
    show (match h[n]? with
      | some (.lst xs) => some (n, xs)
      | _ => none) = _
    rw [e]
  unfold mAppend
  rw [z]
  dsimp only
  rw [if_pos l]
theorem isTy_at {h : AH} {n : Nat} {xs : List P} (e : h[n]? = some (.lst xs)) : isTy h "list" (.obj n) = true := by
  show (match h[n]? with
    | some (.lst _) => ("list" : String) == "list"
    | some (.dct _) => ("list" : String) == "dict"
    | _ => false) = true
  rw [e]
  rfl
theorem len_lst {h : AH} {n : Nat} {xs : List P} (e : h[n]? = some (.lst xs)) : fLen [.obj n] h = .ok (.int (xs.length : Nat)) h := by
  have s1 : seqOf h (.obj n) = some xs := by
    show (match h[n]? with
      | some (.lst xs) => some xs
      | _ => none) = some xs
    rw [e]
  show (match seqOf h (.obj n) with
    | some xs => Out.ok (P.int xs.length) h
    | none => _) = _
  rw [s1]
theorem tup_lst {h : AH} {n : Nat} {xs : List P} (e : h[n]? = some (.lst xs)) : fTup [.obj n] h = .ok (.tup xs) h := by
  have s1 : seqOf h (.obj n) = some xs := by
    show (match h[n]? with
      | some (.lst xs) => some xs
      | _ => none) = some xs
    rw [e]
  show (match seqOf h (.obj n) with
    | some xs => Out.ok (P.tup xs) h
    | none => _) = _
  rw [s1]
theorem putP_new {kvs : List (Key × P)} {k : Key} {p : P} (g : getP kvs k = none) : putP kvs k p = kvs ++ [(k, p)] := by
  unfold putP
  rw [if_neg]
  intro z
  unfold getP at g
  have g2 : kvs.find? (fun kv => decide (kv.1 = k)) = none := by
    cases q : kvs.find? (fun kv => decide (kv.1 = k)) with
    | none => rfl
    | some a => rw [q] at g; cases g
  rw [List.find?_eq_none] at g2
  obtain ⟨a, m, e⟩ := List.any_eq_true.mp z
  exact g2 a m e
theorem put_dct {h : AH} {n : Nat} {kvs : List (Key × P)} {x : Str} {p : P} (e : h[n]? = some (.dct kvs)) (g : getP kvs (.inr x) = none) (l : kvs.length < 16777216) : setItemP (.obj n) (.str x) p h = some (h.set n (.dct (kvs ++ [(.inr x, p)]))) := by
  unfold setItemP
  dsimp only
  rw [e]
  show (if kvs.length < 16777216 then some (h.set n (.dct (putP kvs (.inr x) p))) else none) = _
  rw [if_pos l, putP_new g]
@[simp] theorem eD0_at (t : AM.Loc) (h : AH) : eD0 t h = .ok (.obj h.length) (h ++ [.dct []]) := rfl
theorem cmp_D0 {neg : Bool} {h : AH} {n m : Nat} {kvs : List (Key × P)} (e : h[n]? = some (.dct kvs)) (e2 : h[m]? = some (.dct [])) : cmpV (eqD0 neg) (.obj n) (.obj m) h = .ok (if neg = true then !kvs.isEmpty else kvs.isEmpty) h := by
  refine cmpV_some ?_
  have s1 : dctOf h (.obj n) = some kvs := by
    show (match h[n]? with
      | some (.dct kvs) => some kvs
      | _ => none) = some kvs
    rw [e]
  have s2 : dctOf h (.obj m) = some [] := by
    show (match h[m]? with
      | some (.dct kvs) => some kvs
      | _ => none) = some []
    rw [e2]
  unfold eqD0
  rw [s1, s2]
theorem cmp_L0 {h : AH} {n : Nat} (e : h[n]? = some (.lst [])) : cmpV neP (.obj n) (.lst []) h = .ok false h := by
  have d : dat h (.obj n) = some (.list []) := by
    show (match h[n]? with
      | some (.lst xs) => (datasP (resolve h 3) xs).map PyData.list
      | _ => none) = _
    rw [e]
    rfl
  rw [ne_dat d (show dat h (.lst []) = some (.list []) from rfl) (by decide) (by decide) (fun x z => by cases z)]
  rfl
theorem notin_of {p q : P} {h : AH} {b : Bool} (e : cmpV inP p q h = .ok b h) : cmpV notinP p q h = .ok (!b) h := by
  refine cmpV_some ?_
  have e2 : inP p q h = some b := by
    unfold cmpV at e
    split at e
    · rename_i k z
      cases e
      exact z
    · cases e
  show (inP p q h).map (!·) = _
  rw [e2]
  rfl
@[simp] theorem gS_at (o i : EM) (p : P) (t : AM.Loc) (h : AH) : gS o i p t h = match o t h with
  | .ok x h1 => (match i t h1 with
    | .ok y h2 => (setItemP x y p h2).map fun h3 => (t, h3)
    | _ => none)
  | _ => none := rfl
@[simp] theorem gSl_at (C : Str) (i : Nat) (o : EM) (p : P) (t : AM.Loc) (h : AH) : gSl C i o p t h = match o t h with
  | .ok x h1 => (setSlotP C i x p h1).map fun h2 => (t, h2)
  | _ => none := rfl
theorem set_slot {C : Str} {i n : Nat} {h : AH} {fs : List (Option P)} {p : P} (e : h[n]? = some (.ins C fs)) : setSlotP C i (.obj n) p h = some (h.set n (.ins C (putSl i p fs))) := by
  unfold setSlotP
  rw [insOf_obj e]
  dsimp only
  rw [if_pos rfl]
@[simp] theorem eNew_at (C : Str) (n : Nat) (m : Fn) (a : LM) (t : AM.Loc) (h : AH) : eNew C n m a t h = (a t h).bind fun xs h1 => if xs.length + 1 = n then newOf C m xs h1 else .bad := rfl
theorem new_of {C : Str} {m : Fn} {xs : List P} {h h2 : AH} (e : m (.obj h.length :: xs) (h ++ [.ins C []]) = .ok .non h2) : newOf C m xs h = .ok (.obj h.length) h2 := by
  unfold newOf
  rw [e]
  rfl
theorem getP_app {kvs l : List (Key × P)} {k : Key} (g : getP kvs k = none) : getP (kvs ++ l) k = getP l k := by
  unfold getP at g ⊢
  cases q : kvs.find? (fun kv => decide (kv.1 = k)) with
  | none => rw [List.find?_append, q]; rfl
  | some a => rw [q] at g; cases g
/-- a pair of words among pairs of words -/
theorem pair_eqv (a b c d : Str) : PyData.eqv (.tuple [.str a, .str b]) (.tuple [.str c, .str d]) = decide ((a, b) = (c, d)) := by
  show ((a == c) && ((b == d) && true)) = _
  by_cases e : a = c
  · by_cases f : b = d
    · subst e f
      simp
    · simp [e, f]
  · simp [e]
end
end AM

/-! PU9: lines and words. -/
namespace AM
open PySem PySem.Spec PyProof.Rows L2 TL
noncomputable section
theorem mem_join {S : List Nat} {c : Nat} : ∀ {ps : List (List Nat)}, c ∈ joinL S ps → c ∈ S ∨ ∃ p ∈ ps, c ∈ p
  | [], h => by cases h
  | [p], h => .inr ⟨p, List.mem_singleton.mpr rfl, h⟩
  | p :: q :: r, h => by
    have h : c ∈ p ++ (S ++ joinL S (q :: r)) := h
    rcases List.mem_append.mp h with h | h
    · exact .inr ⟨p, List.mem_cons_self .., h⟩
    · rcases List.mem_append.mp h with h | h
      · exact .inl h
      · rcases mem_join h with z | ⟨x, hx, hc⟩
        · exact .inl z
        · exact .inr ⟨x, List.mem_cons_of_mem _ hx, hc⟩
/-- a word holds no blank and no line's end -/
def wordy (w : Str) : Bool := !(tl w).contains 32 && !(tl w).contains 10
theorem wordy_blank {w : Str} (h : wordy w = true) : 32 ∉ tl w := fun m => by
  unfold wordy at h
  rw [List.contains_iff_mem.mpr m] at h
  simp at h
theorem wordy_feed {w : Str} (h : wordy w = true) : 10 ∉ tl w := fun m => by
  unfold wordy at h
  rw [List.contains_iff_mem.mpr m] at h
  simp at h
theorem tl_blank : tl (" " : Str) = [32] := by decide +kernel
theorem tl_feed : tl ("\n" : Str) = [10] := by decide +kernel
theorem split_words {ws : List Str} (ne : ws ≠ []) (hw : ∀ w ∈ ws, wordy w = true) : Txt.split (Txt.join " " ws) " " = ws :=
  split_join (s := 32) (S := []) tl_blank (by decide +kernel) ne fun p hp => wordy_blank (hw p hp)
theorem feed_line {ws : List Str} (hw : ∀ w ∈ ws, wordy w = true) : 10 ∉ tl (Txt.join " " ws) := fun m => by
  rw [join_eq, tl_join, tl_blank] at m
  rcases mem_join m with z | ⟨p, hp, hc⟩
  · simp at z
  · obtain ⟨w, hm, rfl⟩ := List.mem_map.mp hp
    exact wordy_feed (hw w hm) hc
theorem split_lines {rows : List (List Str)} (ne : rows ≠ []) (hw : ∀ ws ∈ rows, ∀ w ∈ ws, wordy w = true) : Txt.split (Txt.join "\n" (rows.map (Txt.join " "))) "\n" = rows.map (Txt.join " ") :=
  split_join (s := 10) (S := []) tl_feed (by decide +kernel) (fun e => ne (List.map_eq_nil_iff.mp e)) fun p hp => by
    obtain ⟨ws, hm, rfl⟩ := List.mem_map.mp hp
    exact feed_line (hw ws hm)
theorem split_rows {rows : List (List Str)} (ne : rows ≠ []) (nes : ∀ ws ∈ rows, ws ≠ []) (hw : ∀ ws ∈ rows, ∀ w ∈ ws, wordy w = true) : (Txt.split (Txt.join "\n" (rows.map (Txt.join " "))) "\n").map (fun x => Txt.split x " ") = rows := by
  rw [split_lines ne hw, List.map_map]
  have z : ∀ l : List (List Str), (∀ ws ∈ l, ws ∈ rows) → l.map ((fun x => Txt.split x " ") ∘ Txt.join " ") = l := by
    intro l
    induction l with
    | nil => intro _; rfl
    | cons ws l ih =>
      intro h
      rw [List.map_cons, ih fun x hx => h x (List.mem_cons_of_mem _ hx)]
      show Txt.split (Txt.join " " ws) " " :: l = ws :: l
      have m := h ws (List.mem_cons_self ..)
      rw [split_words (nes ws m) (hw ws m)]
  exact z rows fun _ h => h
/-- lengths of joined texts -/
theorem join_len (y : Str) (n : Nat) : ∀ {ps : List Str}, (∀ p ∈ ps, p.length ≤ n) → (Txt.join y ps).length ≤ ps.length * (n + y.length)
  | [], _ => by
    rw [join_eq]
    exact Nat.zero_le _
  | [p], h => by
    rw [join_eq]
    show p.length ≤ _
    have := h p (List.mem_singleton.mpr rfl)
    simp only [List.length_cons, List.length_nil]
    omega
  | p :: q :: r, h => by
    have ih := join_len y n (ps := q :: r) fun x hx => h x (List.mem_cons_of_mem _ hx)
    rw [join_eq] at ih ⊢
    show (p ++ y ++ Str.join y (q :: r)).length ≤ (r.length + 1 + 1) * _
    rw [Str.length_append, Str.length_append]
    have a := h p (List.mem_cons_self ..)
    have ih : (Str.join y (q :: r)).length ≤ (r.length + 1) * (n + y.length) := ih
    rw [Nat.succ_mul (r.length + 1)]
    omega
theorem add_str {b : Bool} {x y : Str} {h : AH} (l : x.length + y.length ≤ 16777216) : vAdd b (.str x) (.str y) h = .ok (.str (x ++ y)) h := by
  show orF2 (orF2 (orF2 (vInt0 fun i j => i + j) vAddS) vAddT) (vAddL b) (.str x) (.str y) h = _
  have z : vAddS (.str x) (.str y) h = .ok (.str (x ++ y)) h := by
    show (if small (x.length + y.length) = true then Out.ok (P.str (x ++ y)) h else .bad) = _
    rw [if_pos (small_true l)]
  show (match (match (match (match Out.bad with
    | .bad => vAddS (.str x) (.str y) h
    | o => o : Out P) with
    | .bad => vAddT (.str x) (.str y) h
    | o => o : Out P) with
    | .bad => vAddL b (.str x) (.str y) h
    | o => o : Out P) with
    | o => o : Out P) = _
  rw [z]
theorem gU_obj {n i : Nat} {r : GMs} {xs : List P} {t : AM.Loc} {h : AH} (e : h[i]? = some (.lst xs)) (l : xs.length = n) : gU n r (.obj i) t h = r xs t h := by
  show (match h[i]? with
    | some (.lst xs) => if xs.length = n then r xs t h else none
    | _ => none) = _
  rw [e]
  dsimp only
  rw [if_pos l]
theorem join_str {y : Str} {ps : List Str} {q : P} {h : AH} (e : seqOf h q = some (ps.map P.str)) (l : (ps.map fun z => Str.length z).sum + ps.length * y.length ≤ 16777216) : fJoin (.str y) q h = .ok (.str (Txt.join y ps)) h := by
  have s : ∀ ys : List Str, strsOf (ys.map P.str) = some ys := by
    intro ys
    induction ys with
    | nil => rfl
    | cons y ys ih =>
      show (strsOf (ys.map P.str)).map (y :: ·) = _
      rw [ih]
      rfl
  show (match (seqOf h q).bind strsOf with
    | some ys => if (ys.map fun z => Str.length z).sum + ys.length * y.length ≤ 16777216 then Out.ok (P.str (Txt.join y ys)) h else .bad
    | none => .bad) = _
  rw [e]
  show (match strsOf (ps.map P.str) with
    | some ys => if (ys.map fun z => Str.length z).sum + ys.length * y.length ≤ 16777216 then Out.ok (P.str (Txt.join y ys)) h else .bad
    | none => .bad) = _
  rw [s]
  dsimp only
  rw [if_pos l]
end
end AM

/-! PU10: what is shown; steps. -/
namespace AM
open PySem PySem.Spec PyProof.Rows L2
noncomputable section
theorem sq_nx {a b : SM} {t t' : AM.Loc} {h h' : AH} (e : a t h = .nx t' h') : sQ a b t h = b t' h' := by
  rw [sQ_at, e]
  rfl
theorem extend_at {h : AH} {n : Nat} {xs ys : List P} (e : h[n]? = some (.lst xs)) (l : xs.length + ys.length ≤ 16777216) : mExtend (.obj n) [.lst ys] h = .ok .non (h.set n (.lst (xs ++ ys))) := by
  have z : objL h (.obj n) = some (n, xs) := by
    show (match h[n]? with
      | some (.lst xs) => some (n, xs)
      | _ => none) = _
    rw [e]
  unfold mExtend
  rw [z]
  show (if small (xs.length + ys.length) = true then _ else _) = _
  rw [if_pos (small_true l)]
theorem get0 {h r : AH} {o : O} : (h ++ o :: r)[h.length]? = some o := by simp
theorem get1 {h r : AH} {o u : O} : (h ++ o :: u :: r)[h.length + 1]? = some u := by
  rw [List.getElem?_append_right (by omega)]
  simp
theorem set0 {h r : AH} {o v : O} : (h ++ o :: r).set h.length v = h ++ v :: r := by
  rw [List.set_append_right _ _ (by omega)]
  simp
theorem set1 {h r : AH} {o u v : O} : (h ++ o :: u :: r).set (h.length + 1) v = h ++ o :: v :: r := by
  rw [List.set_append_right _ _ (by omega)]
  simp
theorem extend0 {h r : AH} {xs ys : List P} (l : xs.length + ys.length ≤ 16777216) : mExtend (.obj h.length) [.lst ys] (h ++ .lst xs :: r) = .ok .non (h ++ .lst (xs ++ ys) :: r) := by rw [extend_at get0 l, set0]
theorem extend1 {h r : AH} {o : O} {xs ys : List P} (l : xs.length + ys.length ≤ 16777216) : mExtend (.obj (h.length + 1)) [.lst ys] (h ++ o :: .lst xs :: r) = .ok .non (h ++ o :: .lst (xs ++ ys) :: r) := by rw [extend_at get1 l, set1]
theorem append0 {h r : AH} {xs : List P} {y : P} (l : xs.length < 16777216) : mAppend (.obj h.length) [y] (h ++ .lst xs :: r) = .ok .non (h ++ .lst (xs ++ [y]) :: r) := by rw [append_at get0 l, set0]
theorem isTy0 {h r : AH} {xs : List P} : isTy (h ++ .lst xs :: r) "list" (.obj h.length) = true := isTy_at get0
theorem isTy1 {h r : AH} {o : O} {xs : List P} : isTy (h ++ o :: .lst xs :: r) "list" (.obj (h.length + 1)) = true := isTy_at get1
theorem repr_dat {h : AH} {p : P} {d : PyData} (e : dat h p = some d) (o : shownOk d = true) : fRepr [p] h = .ok (.str d.shown) h := by
  show (match dat h p with
    | some d => if shownOk d = true then Out.ok (P.str d.shown) h else .bad
    | none => .bad) = _
  rw [e]
  dsimp only
  rw [if_pos o]
theorem dat_obj {h : AH} {n : Nat} {xs : List P} {ds : List PyData} (e : h[n]? = some (.lst xs)) (e2 : datasP (resolve h 3) xs = some ds) : dat h (.obj n) = some (.list ds) := by
  show (match h[n]? with
    | some (.lst xs) => (datasP (resolve h 3) xs).map PyData.list
    | _ => none) = _
  rw [e]
  dsimp only
  rw [e2]
  rfl
theorem shown_ok (B : Nat) {d : PyData} (hB : 8 ≤ B) (s : d.showable = true) (nd : d.hasDict = false) (dp : d.depth ≤ 60) (l : d.leavesShort B = true) (b : (B + 2) * d.bulk + B ≤ 16777216) : shownOk d = true := by
  have z := PyData.shown_le_bulk B hB d l
  unfold shownOk
  rw [s, nd, decide_eq_true dp, small_true (by omega)]
  rfl
/-- both lists hold the same -/
theorem repr_same {h : AH} {n m : Nat} {xs : List P} {ds : List PyData} (e : h[n]? = some (.lst xs)) (e2 : h[m]? = some (.lst xs)) (d : datasP (resolve h 3) xs = some ds) (o : shownOk (.list ds) = true) : (eCmp eqP (eCB fRepr (lC (eC (.obj n)) lN)) (eCB fRepr (lC (eC (.obj m)) lN))) [] h = .ok (.bl true) h := by
  have z1 := repr_dat (dat_obj e d) o
  have z2 := repr_dat (dat_obj e2 d) o
  simp [z1, z2]
end
end AM


/-! fractions -/
namespace K13
open PySem PySem.Spec PyProof.Rows L2 AM
noncomputable section
theorem p_is_whole (p : P) (T : String) (h : AH) (e : tyP h p = some T) : m_is_whole [p] h = .ok (.bl (tyB T "int" && !tyB T "bool")) h := by
  refine fn_rt0 ?_
  unfold b_is_whole
  simp [e]
  cases h1 : tyB T "int" <;> simp [e]
/-- Euclid -/
theorem p_common (a b : Int) (h : AH) : m_common [.int a, .int b] h = .ok (.int (Int.gcd a b : Nat)) h := by
  refine fn_rt0 ?_
  unfold b_common
  obtain ⟨t2, h2, ⟨x, et, eg, eh⟩, _, ew⟩ := while_run (c := tCp gtP (eV 1) (eC (.int 0))) (b := sPar 0 1 (lC (eV 1) (lC (eB vMod (eV 0) (eV 1)) lN))) (fun n t h2 => ∃ x : Nat, t = [some (.int x), some (.int n)] ∧ Nat.gcd x n = Int.gcd a b ∧ h2 = h) (by
    rintro n t h2 ⟨x, rfl, eg, rfl⟩
    by_cases hn : n = 0
    · subst hn
      exact .inl ⟨h2, by simp, rfl, rfl⟩
    · have hp : 0 < n := by omega
      refine .inr ⟨h2, [some (.int (n : Nat)), some (.int ((x % n : Nat) : Int))], h2, x % n, ?_, .inl ?_, Nat.mod_lt _ (by omega), n, rfl, ?_, rfl⟩
      · simp [hp]
      · simp [hp]
      · rw [← eg, Nat.gcd_comm x n, Nat.gcd_rec n x, Nat.gcd_comm]) b.natAbs (t := [some (.int (a.natAbs : Nat)), some (.int (b.natAbs : Nat))]) (h := h) ⟨a.natAbs, rfl, rfl, rfl⟩
  simp at ew ⊢
  rw [ew]
  subst et eh
  simp at eg ⊢
  rw [eg]
end
end K13


/-! fractions, rows -/
namespace K13
open PySem PySem.Spec PyProof.Rows L2 AM
noncomputable section
theorem p_ratio (a b : Int) (h : AH) (hb : 0 < b) (l : b.natAbs < 2 ^ 8999) : m_ratio [.int a, .int b] h = .ok (ratP (fr a b)) h := by
  have g0 : 0 < Int.gcd a b := Int.gcd_pos_of_ne_zero_right _ (by omega)
  have gl : (Int.gcd a b) ≤ b.natAbs := Int.gcd_le_natAbs_right _ (by omega)
  have g1 : (0 : Int) < (Int.gcd a b : Nat) := by omega
  have g2 : ((Int.gcd a b : Nat) : Int).natAbs.log2 < 9000 := by
    have := log2_le (n := Int.gcd a b) (b := 8999) (by omega)
    rw [Int.natAbs_natCast]
    omega
  refine fn_rt0 ?_
  unfold b_ratio
  simp [p_common, hb, v_div _ g1 g2]
  rfl
theorem p_plus {n m : Nat} {x y : Fr} (h : AH) (hx : FrOk n x) (hy : FrOk m y) (l : n + m < 8999) : m_plus [ratP x, ratP y] h = .ok (ratP (plusF x y)) h := by
  refine fn_rt0 ?_
  unfold b_plus
  have e1 := mulOk_of hx.top hy.bot (by omega)
  have e2 := mulOk_of hy.top hx.bot (by omega)
  have e3 := mulOk_of hx.bot hy.bot (by omega)
  have e4 : (x.2 * y.2).natAbs < 2 ^ 8999 := by
    rw [Int.natAbs_mul]
    exact Nat.lt_of_lt_of_le (mul_lt hx.bot hy.bot) (Nat.pow_le_pow_right (by omega) (by omega))
  simp [ratP, v_mul _ e1, v_mul _ e2, v_mul _ e3, p_ratio _ _ _ (Int.mul_pos hx.pos hy.pos) e4]
  exact ⟨rfl, rfl⟩
theorem p_less {n m : Nat} {x y : Fr} (h : AH) (hx : FrOk n x) (hy : FrOk m y) (l : n + m < 8999) : m_less [ratP x, ratP y] h = .ok (ratP (lessF x y)) h := by
  refine fn_rt0 ?_
  unfold b_less
  have e1 := mulOk_of hx.top hy.bot (by omega)
  have e2 := mulOk_of hy.top hx.bot (by omega)
  have e3 := mulOk_of hx.bot hy.bot (by omega)
  have e4 : (x.2 * y.2).natAbs < 2 ^ 8999 := by
    rw [Int.natAbs_mul]
    exact Nat.lt_of_lt_of_le (mul_lt hx.bot hy.bot) (Nat.pow_le_pow_right (by omega) (by omega))
  simp [ratP, v_mul _ e1, v_mul _ e2, v_mul _ e3, p_ratio _ _ _ (Int.mul_pos hx.pos hy.pos) e4]
  exact ⟨rfl, rfl⟩
theorem p_times {n m : Nat} {x y : Fr} (h : AH) (hx : FrOk n x) (hy : FrOk m y) (l : n + m < 8999) : m_times [ratP x, ratP y] h = .ok (ratP (timesF x y)) h := by
  refine fn_rt0 ?_
  unfold b_times
  have e1 := mulOk_of hx.top hy.top (by omega)
  have e3 := mulOk_of hx.bot hy.bot (by omega)
  have e4 : (x.2 * y.2).natAbs < 2 ^ 8999 := by
    rw [Int.natAbs_mul]
    exact Nat.lt_of_lt_of_le (mul_lt hx.bot hy.bot) (Nat.pow_le_pow_right (by omega) (by omega))
  simp [ratP, v_mul _ e1, v_mul _ e3, p_ratio _ _ _ (Int.mul_pos hx.pos hy.pos) e4]
  exact ⟨rfl, rfl⟩
theorem p_is_below {n m : Nat} {x y : Fr} (h : AH) (hx : FrOk n x) (hy : FrOk m y) (l : n + m < 8999) : m_is_below [ratP x, ratP y] h = .ok (.bl (belowF x y)) h := by
  refine fn_rt0 ?_
  unfold b_is_below
  have e1 := mulOk_of hx.top hy.bot (by omega)
  have e2 := mulOk_of hy.top hx.bot (by omega)
  simp [ratP, v_mul _ e1, v_mul _ e2]
  rfl
/-! rows -/
theorem p_row_plus {n m : Nat} {r s : List Fr} (h : AH) (hr : RowOk n r) (hs : RowOk m s) (l : n + m < 8999) (L : r.length ≤ 1000) : m_row_plus [rowP r, rowP s] h = .ok (rowP (rowPlus r s)) h := by
  refine fn_rt0 ?_
  unfold b_row_plus
  simp [rowP, eLc_at, zipP_map]
  rw [lc_map0 _ (fun z => ratP (plusF z.1 z.2))]
  · simp [rowPlus, zipF, Function.comp_def]
  · simp
    omega
  · rintro ⟨x, y⟩ hxy hh
    have hm := List.of_mem_zip hxy
    exact ⟨_, by simp; rfl, by simp [p_plus _ (hr x hm.1) (hs y hm.2) l], rfl⟩
theorem p_row_less {n m : Nat} {r s : List Fr} (h : AH) (hr : RowOk n r) (hs : RowOk m s) (l : n + m < 8999) (L : r.length ≤ 1000) : m_row_less [rowP r, rowP s] h = .ok (rowP (rowLess r s)) h := by
  refine fn_rt0 ?_
  unfold b_row_less
  simp [rowP, eLc_at, zipP_map]
  rw [lc_map0 _ (fun z => ratP (lessF z.1 z.2))]
  · simp [rowLess, zipF, Function.comp_def]
  · simp
    omega
  · rintro ⟨x, y⟩ hxy hh
    have hm := List.of_mem_zip hxy
    exact ⟨_, by simp; rfl, by simp [p_less _ (hr x hm.1) (hs y hm.2) l], rfl⟩
theorem p_row_times {n m : Nat} {r : List Fr} {b : Fr} (h : AH) (hr : RowOk n r) (hb : FrOk m b) (l : n + m < 8999) (L : r.length ≤ 1000) : m_row_times [rowP r, ratP b] h = .ok (rowP (rowTimes r b)) h := by
  refine fn_rt0 ?_
  unfold b_row_times
  simp [rowP, eLc_at]
  rw [lc_map0 _ (fun z => ratP (timesF z b))]
  · simp [rowTimes, Function.comp_def]
  · omega
  · rintro x hx hh
    exact ⟨_, by simp; rfl, by simp [p_times _ (hr x hx) hb l], rfl⟩
theorem p_total {n : Nat} {r : List Fr} (h : AH) (hr : RowOk n r) (l : r.length * (n + 1) + n < 8900) (p : P) (hp : p = .lst (r.map ratP) ∨ p = rowP r) : m_total [p] h = .ok (ratP (totalF r)) h := by
  have main : ∀ (xs : List Fr) (m : Nat) (a : Fr) (o : Option P), FrOk m a → RowOk n xs → m + xs.length * (n + 1) + n < 8999 → ∀ S : Src, S.w = [] →
      ∃ o2, forP S h (gN 2) (sA (eCall 2 m_plus (lC (eV 1) (lC (eV 2) lN))) (gN 1)) (xs.map ratP) [some p, some (ratP a), o] h = .nx [some p, some (ratP (xs.foldl plusF a)), o2] h := by
    intro xs
    induction xs with
    | nil =>
      intro m a o _ _ _ S hS
      refine ⟨o, ?_⟩
      show forP S h _ _ [] _ h = _
      unfold forP
      rw [if_pos (by unfold Src.still; rw [hS]; simp)]
      rfl
    | cons x xs ih =>
      intro m a o ha hx hl S hS
      rw [List.length_cons, Nat.succ_mul] at hl
      obtain ⟨o2, e⟩ := ih (m + n + 1) (plusF a x) (some (ratP x)) (ha.plus (hx x (List.mem_cons_self ..))) (fun y hy => hx y (List.mem_cons_of_mem _ hy)) (by omega) S hS
      refine ⟨o2, ?_⟩
      show forP S h _ _ (ratP x :: xs.map ratP) _ h = _
      unfold forP
      rw [if_pos (by unfold Src.still; rw [hS]; simp)]
      simp [p_plus _ ha (hx x (List.mem_cons_self ..)) (by omega : m + n < 8999)]
      exact e
  refine fn_rt0 ?_
  unfold b_total
  rcases hp with rfl | rfl
  · obtain ⟨o2, e⟩ := main r 1 (0, 1) none nought_ok hr (by omega) ⟨r.map ratP, []⟩ rfl
    simp
    rw [show P.tup [P.int 0, P.int 1] = ratP (0, 1) from rfl, e]
    simp [totalF]
  · obtain ⟨o2, e⟩ := main r 1 (0, 1) none nought_ok hr (by omega) ⟨r.map ratP, []⟩ rfl
    simp [rowP] at e ⊢
    rw [show P.tup [P.int 0, P.int 1] = ratP (0, 1) from rfl, e]
    simp [totalF]
end
end K13


/-! rows' sums, what is a fraction, words -/
namespace K13
open PySem PySem.Spec PyProof.Rows L2 AM
noncomputable section
theorem p_row_product {n m : Nat} {r s : List Fr} (h : AH) (hr : RowOk n r) (hs : RowOk m s) (L : r.length * (n + m + 1) + n + m < 8900) (L2 : r.length ≤ 1000) : m_row_product [rowP r, rowP s] h = .ok (ratP (rowProd r s)) h := by
  refine fn_rt0 ?_
  unfold b_row_product
  simp [rowP, eLc_at, zipP_map]
  rw [lc_map0 _ (fun z => ratP (timesF z.1 z.2))]
  · have hz : RowOk (n + m) (zipF timesF r s) := zipWith_ok hr hs fun _ _ a b => a.times b
    have hl : (zipF timesF r s).length ≤ r.length := by
      unfold zipF
      rw [List.length_map, List.length_zip]
      omega
    have ht := p_total h hz (by
      have : (zipF timesF r s).length * (n + m + 1) ≤ r.length * (n + m + 1) := Nat.mul_le_mul_right _ hl
      omega) _ (.inl rfl)
    simp [zipF, Function.comp_def] at ht
    simp [ht]
    rfl
  · simp
    omega
  · rintro ⟨x, y⟩ hxy hh
    have hm := List.of_mem_zip hxy
    exact ⟨_, by simp; rfl, by simp [p_times _ (hr x hm.1) (hs y hm.2) (by omega : n + m < 8999)], rfl⟩
theorem p_row_square {n : Nat} {r : List Fr} (h : AH) (hr : RowOk n r) (L : r.length * (n + n + 1) + n + n < 8900) (L2 : r.length ≤ 1000) : m_row_square [rowP r] h = .ok (ratP (rowSq r)) h := by
  refine fn_rt0 ?_
  unfold b_row_square
  have e := p_row_product h hr hr L L2
  simp [e]
  rfl
theorem p_is_ratio2 (a b : Int) (h : AH) : m_is_ratio [.tup [.int a, .int b]] h = .ok (.bl (decide (1 ≤ b) && (((Int.gcd a b : Nat) : Int) == 1))) h := by
  refine fn_rt0 ?_
  unfold b_is_ratio
  have e : lcF ⟨[P.int a, P.int b].map id, []⟩ h (gN 1) tY (eCall 1 m_is_whole (lC (eV 1) lN)) [some (P.tup [P.int a, P.int b]), none] ([P.int a, P.int b].map id) [] h = .ok (.lst ([P.int a, P.int b].map fun _ => .bl true)) h := by
    refine lc_map0 _ _ (by simp) fun y hy hh => ?_
    have hy : y = .int a ∨ y = .int b := by simpa using hy
    refine ⟨_, rfl, ?_, rfl⟩
    rcases hy with rfl | rfl <;> simp [p_is_whole _ "int" _ (ty_int _ _), tyB]
  have e2 := f_all [true, true] h
  simp at e e2
  simp [eLc_at, e, e2, p_common, tyB]
  by_cases hb : 1 ≤ b <;> simp [hb]
theorem p_is_ratio {n : Nat} {x : Fr} (h : AH) (hx : FrOk n x) : m_is_ratio [ratP x] h = .ok (.bl true) h := by
  have e := p_is_ratio2 x.1 x.2 h
  have p1 : 1 ≤ x.2 := hx.pos
  rw [show ratP x = .tup [.int x.1, .int x.2] from rfl, e, hx.low]
  simp [p1]
theorem p_is_rate {n : Nat} {x : Fr} (h : AH) (hx : FrOk n x) : m_is_rate [ratP x] h = .ok (.bl (decide (0 ≤ x.1))) h := by
  refine fn_rt0 ?_
  unfold b_is_rate
  simp [p_is_ratio _ hx]
  simp [ratP]
theorem p_is_row {n : Nat} {r : List Fr} (h : AH) (hr : RowOk n r) (lo hi : Int) (L : r.length ≤ 1000) : m_is_row [rowP r, .int lo, .int hi] h = .ok (.bl (decide (lo ≤ (r.length : Int)) && decide ((r.length : Int) ≤ hi))) h := by
  refine fn_rt0 ?_
  unfold b_is_row
  have e : lcF ⟨r.map ratP, []⟩ h (gN 3) tY (eCall 1 m_is_ratio (lC (eV 3) lN)) [some (rowP r), some (.int lo), some (.int hi), none] (r.map ratP) [] h = .ok (.lst (r.map fun _ => .bl true)) h := by
    refine lc_map0 _ _ (by omega) fun y hy hh => ?_
    exact ⟨_, rfl, by simp [p_is_ratio _ (hr y hy)], rfl⟩
  have e2 := f_all (r.map fun _ => true) h
  rw [List.map_map] at e2
  simp only [Function.comp_def] at e2
  simp [rowP] at e e2
  simp [rowP, eLc_at, e, tyB]
  by_cases h1 : lo ≤ (r.length : Int) <;> by_cases h2 : (r.length : Int) ≤ hi <;> simp [h1, h2, e, e2]
theorem p_is_integer (i lo hi : Int) (h : AH) : m_is_integer [.int i, .int lo, .int hi] h = .ok (.bl (decide (lo ≤ i) && decide (i ≤ hi))) h := by
  refine fn_rt0 ?_
  unfold b_is_integer
  simp [p_is_whole _ "int" _ (ty_int _ _), tyB]
  by_cases h1 : lo ≤ i <;> simp [h1]
theorem p_is_integer_non (lo hi : Int) (h : AH) : m_is_integer [.non, .int lo, .int hi] h = .ok (.bl false) h := by
  refine fn_rt0 ?_
  unfold b_is_integer
  simp [p_is_whole _ "NoneType" _ (ty_non _), tyB]
theorem p_is_tuple (xs : List P) (lo hi : Int) (h : AH) : m_is_tuple [.tup xs, .int lo, .int hi] h = .ok (.bl (decide (lo ≤ (xs.length : Int)) && decide ((xs.length : Int) ≤ hi))) h := by
  refine fn_rt0 ?_
  unfold b_is_tuple
  simp [tyB]
  by_cases h1 : lo ≤ (xs.length : Int) <;> simp [h1]
theorem p_is_number {n : Nat} {x : Fr} (h : AH) (hx : FrOk n x) : m_is_number [ratP x] h = .ok (.bl (decide ((x.1.natAbs : Int) ≤ 1000) && decide (x.2 ≤ 60))) h := by
  refine fn_rt0 ?_
  unfold b_is_number
  simp [p_is_ratio _ hx]
  simp [ratP]
  by_cases h1 : (x.1.natAbs : Int) ≤ 1000 <;> simp [h1]
/-! words -/
theorem p_whole_in {w : Str} (h : AH) (l : w.length ≤ 16777216) (hv : figsOk (figs w) = true → zeroBad w = false → ∃ n, PySem.intText? w = some n ∧ w.length ≤ 640) : m_whole_in [.str w] h = .ok (optI (wholeO w)) h := by
  refine fn_rt0 ?_
  unfold b_whole_in
  have lf : (figs w).length ≤ 16777216 := by
    unfold figs
    split
    · exact Nat.le_trans (cutS_len _ _ _) l
    · exact l
  have ef : (if cutS w none (some 1) = ("-" : Str) then (Out.ok (P.str (cutS w (some 1) none)) h : Out P) else .ok (P.str w) h) = .ok (.str (figs w)) h := by
    unfold figs
    split <;> rfl
  have e : ∀ hh : AH, lcF ⟨(figs w).cps.toList.map fun c => P.str ⟨#[c]⟩, []⟩ hh (gN 2) tY (eCmp inP (eV 2) (eC (.str "0123456789"))) [some (.str w), some (.str (figs w)), none] ((figs w).cps.toList.map fun c => P.str ⟨#[c]⟩) [] hh = .ok (.lst ((figs w).cps.toList.map fun c => .bl (inStr ⟨#[c]⟩ "0123456789"))) hh := fun hh => by
    refine lc_map0 _ _ (by rw [Array.length_toList]; exact lf) fun y hy hh => ?_
    exact ⟨_, rfl, by simp, rfl⟩
  have e2 := f_all ((figs w).cps.toList.map fun c => inStr ⟨#[c]⟩ "0123456789") h
  rw [List.map_map] at e2
  simp only [Function.comp_def] at e2
  have z1 : (figs w).length = (figs w).cps.toList.length := by rw [Array.length_toList]; rfl
  simp [slice_str l, ef, len_str lf]
  by_cases c1 : 1 ≤ ((figs w).length : Int)
  · by_cases c2 : ((figs w).length : Int) ≤ 4000
    · simp [c1, c2, eLc_at, e]
      rw [e2]
      have fo : figsOk (figs w) = ((figs w).cps.toList.map fun c => inStr ⟨#[c]⟩ "0123456789").all id := by
        unfold figsOk
        rw [decide_eq_true c1, decide_eq_true c2]
        rfl
      generalize ((figs w).cps.toList.map fun c => inStr ⟨#[c]⟩ "0123456789").all id = B at fo
      cases B with
      | false =>
        simp
        unfold wholeO
        rw [fo]
        simp [optI]
      | true =>
        have hc : ∃ c0, atI (figs w).cps.toList 0 = some c0 := by
          cases q : (figs w).cps.toList with
          | nil =>
            rw [q] at z1
            rw [z1] at c1
            simp at c1
          | cons a r => exact ⟨a, atI_0 a r⟩
        obtain ⟨c0, hc⟩ := hc
        have zb : zeroBad w = ((⟨#[c0]⟩ : Str) == "0" && !(w == ("0" : Str))) := by
          unfold zeroBad
          rw [hc]
        have wo : wholeO w = if zeroBad w = false then PySem.intText? w else none := by
          unfold wholeO
          rw [fo]
          simp
        rw [wo]
        simp [item_str lf hc]
        by_cases d1 : (⟨#[c0]⟩ : Str) = "0"
        · by_cases d2 : w = ("0" : Str)
          · have zb2 : zeroBad w = false := by rw [zb]; simp [d2]
            obtain ⟨n, hn, hl⟩ := hv fo zb2
            have ei : ∀ hh : AH, fInt [.str w] hh = .ok (.int n) hh := fun hh => int_str hn hl
            have d3 : (w == ("0" : Str)) = true := by rw [d2]; exact beq_self_eq_true _
            rw [zb2, hn, d3]
            simp [d1, ei, optI]
          · have zb2 : zeroBad w = true := by rw [zb]; simp [d1, d2]
            rw [zb2]
            simp [d1, d2, optI]
        · have zb2 : zeroBad w = false := by rw [zb]; simp [d1]
          obtain ⟨n, hn, hl⟩ := hv fo zb2
          have ei : ∀ hh : AH, fInt [.str w] hh = .ok (.int n) hh := fun hh => int_str hn hl
          rw [zb2, hn]
          simp [d1, ei, optI]
    · simp [c1, c2]
      unfold wholeO figsOk
      simp [c2, optI]
  · simp [c1]
    unfold wholeO figsOk
    simp [c1, optI]
end
end K13


/-! words, lines -/
namespace K13
open PySem PySem.Spec PyProof.Rows L2 AM
noncomputable section
/-- the word tells the whole number -/
def WhIs (w : Str) (i : Int) : Prop := ∀ h, m_whole_in [.str w] h = .ok (.int i) h
/-- the word tells the fraction -/
def WordIs (w : Str) (x : Fr) : Prop := ∀ h, m_ratio_in [.str w] h = .ok (ratP x) h
theorem whIs_of {w : Str} {i : Int} (l : w.length ≤ 640) (e : PySem.intText? w = some i) (f : figsOk (figs w) = true) (z : zeroBad w = false) : WhIs w i := fun h => by
  rw [p_whole_in h (by omega) (fun _ _ => ⟨i, e, l⟩)]
  unfold wholeO
  rw [f, z, e]
  rfl
theorem p_ratio_in1 {w a : Str} {i : Int} (l : w.length + 2 ≤ 16777216) (s : Txt.split w "/" = [a]) (ha : WhIs a i) : WordIs w (i, 1) := fun h => by
  refine fn_rt0 ?_
  unfold b_ratio_in
  have e : ∀ hh : AH, lcF ⟨[a].map P.str, []⟩ hh (gN 3) tY (eCall 1 m_whole_in (lC (eV 3) lN)) [some (.str w), none, none, none] ([a].map P.str) [] hh = .ok (.lst ([a].map fun _ => .int i)) hh := fun hh => by
    refine lc_map0 _ _ (by simp) fun y hy hh => ?_
    have hy : y = a := by simpa using hy
    subst hy
    exact ⟨_, rfl, by simp [ha hh], rfl⟩
  simp at e
  simp [split_str l (show (("/" : Str).length == 0) = false by decide), s, eLc_at, e]
  rfl
theorem p_ratio_in2 {w a b : Str} {n : Nat} {x : Fr} (l : w.length + 2 ≤ 16777216) (s : Txt.split w "/" = [a, b]) (ha : WhIs a x.1) (hb : WhIs b x.2) (hx : FrOk n x) (h1 : 1 < x.2) : WordIs w x := fun h => by
  refine fn_rt0 ?_
  unfold b_ratio_in
  have e : ∀ hh : AH, lcF ⟨[(a, x.1), (b, x.2)].map fun z => P.str z.1, []⟩ hh (gN 3) tY (eCall 1 m_whole_in (lC (eV 3) lN)) [some (.str w), none, none, none] ([(a, x.1), (b, x.2)].map fun z => P.str z.1) [] hh = .ok (.lst ([(a, x.1), (b, x.2)].map fun z => .int z.2)) hh := fun hh => by
    refine lc_map0 _ _ (by simp) fun y hy hh => ?_
    have hy : y = (a, x.1) ∨ y = (b, x.2) := by simpa using hy
    rcases hy with rfl | rfl
    · exact ⟨_, rfl, by simp [ha hh], rfl⟩
    · exact ⟨_, rfl, by simp [hb hh], rfl⟩
  simp at e
  have r := p_is_ratio h hx
  unfold ratP at r
  simp [split_str l (show (("/" : Str).length == 0) = false by decide), s, eLc_at, e]
  have c0 : cmpV inP .non (.lst [.int x.1, .int x.2]) h = .ok false h := rfl
  simp [c0, h1, r]
  rfl
theorem p_lines_of {w : Str} (h : AH) (l : w.length + 2 ≤ 16777216) (hl : ∀ x ∈ Txt.split w "\n", x.length + 2 ≤ 16777216) (hn : (Txt.split w "\n").length ≤ 16777216) : m_lines_of [.str w] h = .ok (.lst ((Txt.split w "\n").map fun x => .lst ((Txt.split x " ").map P.str))) h := by
  refine fn_rt0 ?_
  unfold b_lines_of
  simp [split_str l (show (("\n" : Str).length == 0) = false by decide), eLc_at]
  rw [lc_map0 _ (fun x => P.lst ((Txt.split x " ").map P.str)) hn]
  · simp
  · intro y hy hh
    refine ⟨_, rfl, by simp [split_str (hl y hy) (show ((" " : Str).length == 0) = false by decide)], ?_⟩
    show cleans _ ((Txt.split y " ").map P.str) = true
    refine cleans_all fun p hp => ?_
    obtain ⟨z, _, rfl⟩ := List.mem_map.mp hp
    rfl
theorem p_coords_in {w : Str} {k : Int} (h : AH) (hw : WhIs w k) (h1 : 1 ≤ k) (h2 : k ≤ 3) : m_coords_in [.lst [.str "net", .str w]] h = .ok (.int k) h := by
  refine fn_rt0 ?_
  unfold b_coords_in
  simp [hw h, p_is_integer, h1, h2]
/-- as many words as fractions, told by them -/
inductive WordsAre : List Str → List Fr → Prop where
  | nil : WordsAre [] []
  | cons {w : Str} {x : Fr} {ws : List Str} {xs : List Fr} (h : WordIs w x) (t : WordsAre ws xs) : WordsAre (w :: ws) (x :: xs)
theorem WordsAre.len {ws : List Str} {xs : List Fr} (h : WordsAre ws xs) : ws.length = xs.length := by
  induction h with
  | nil => rfl
  | cons _ _ ih => simp [ih]
theorem WordsAre.mem {ws : List Str} {xs : List Fr} (h : WordsAre ws xs) : ∀ z ∈ ws.zip xs, WordIs z.1 z.2 := by
  induction h with
  | nil => intro z hz; simp at hz
  | cons a _ ih =>
    intro z hz
    rw [List.zip_cons_cons] at hz
    rcases List.mem_cons.mp hz with rfl | hz
    · exact a
    · exact ih z hz
theorem zip_fst {α β : Type} : ∀ {xs : List α} {ys : List β}, xs.length = ys.length → (xs.zip ys).map (·.1) = xs
  | [], _, _ => by simp
  | _ :: _, [], h => by simp at h
  | x :: xs, y :: ys, h => by
    rw [List.zip_cons_cons, List.map_cons, zip_fst (by simpa using h)]
theorem zip_snd {α β : Type} : ∀ {xs : List α} {ys : List β}, xs.length = ys.length → (xs.zip ys).map (·.2) = ys
  | [], [], _ => rfl
  | [], _ :: _, h => by simp at h
  | _ :: _, [], h => by simp at h
  | x :: xs, y :: ys, h => by
    rw [List.zip_cons_cons, List.map_cons, zip_snd (by simpa using h)]
/-- a number within its bounds -/
def NumOk (x : Fr) : Prop := FrOk 10 x ∧ x.1.natAbs ≤ 1000 ∧ x.2 ≤ 60
theorem p_numbers_in {ws : List Str} {xs : List Fr} (h : AH) (hw : WordsAre ws xs) (hx : ∀ x ∈ xs, NumOk x) (L : ws.length ≤ 1000) : m_numbers_in [.lst (ws.map P.str), .int (ws.length : Nat)] h = .ok (rowP xs) h := by
  refine fn_rt0 ?_
  unfold b_numbers_in
  have e : ∀ t hh, t = [some (P.lst (ws.map P.str)), some (.int (ws.length : Nat)), none, none, none] → lcF ⟨ws.map P.str, []⟩ hh (gN 3) tY (eCall 1 m_ratio_in (lC (eV 3) lN)) t (ws.map P.str) [] hh = .ok (.lst (xs.map ratP)) hh := by
    rintro t hh rfl
    have z := lc_map0 (ys := ws.zip xs) (h := hh) (g := gN 3) (e := eCall 1 m_ratio_in (lC (eV 3) lN)) (t := [some (P.lst (ws.map P.str)), some (.int (ws.length : Nat)), none, none, none]) (fun z => P.str z.1) (fun z => ratP z.2) (by rw [List.length_zip]; omega) fun y hy hh => ⟨_, rfl, by simp [hw.mem y hy hh], rfl⟩
    have q1 : (ws.zip xs).map (fun z => P.str z.1) = ws.map P.str := by
      have y := congrArg (List.map P.str) (zip_fst hw.len)
      rwa [List.map_map] at y
    have q2 : (ws.zip xs).map (fun z => ratP z.2) = xs.map ratP := by
      have y := congrArg (List.map ratP) (zip_snd hw.len)
      rwa [List.map_map] at y
    rw [q1, q2] at z
    exact z
  have e2 : ∀ t hh, t = [some (P.lst (ws.map P.str)), some (.int (ws.length : Nat)), some (.lst (xs.map ratP)), none, none] → lcF ⟨xs.map ratP, []⟩ hh (gN 4) tY (eCall 1 m_is_number (lC (eV 4) lN)) t (xs.map ratP) [] hh = .ok (.lst (xs.map fun _ => .bl true)) hh := by
    rintro t hh rfl
    refine lc_map0 _ _ (by rw [← hw.len]; omega) fun y hy hh => ?_
    obtain ⟨o1, o2, o3⟩ := hx y hy
    exact ⟨_, rfl, by simp [p_is_number _ o1, o2, o3]; omega, rfl⟩
  have e3 := f_all (xs.map fun _ => true) h
  rw [List.map_map] at e3
  simp only [Function.comp_def] at e3
  simp [eLc_at, e, e2, hw.len, e3]
  rfl
end
end K13


/-! nets that are read -/
namespace K13
open PySem PySem.Spec PyProof.Rows L2 AM
noncomputable section
structure NetR where
  text : Str
  coords : Nat
  pegs : List (Str × List Fr)
  rings : List (Str × List Fr × List Fr)
  cords : List (Str × Str)
def pairP (c : Str × Str) : P := .tup [.str c.1, .str c.2]
def NetR.ringNames (N : NetR) : List Str := N.rings.map (·.1)
def NetR.pegNames (N : NetR) : List Str := N.pegs.map (·.1)
def NetR.names (N : NetR) : List Str := N.pegNames ++ N.ringNames
def pegK (l : List (Str × List Fr)) : List (Key × P) := l.map fun z => (.inr z.1, rowP z.2)
def ringK (l : List (Str × List Fr × List Fr)) : List (Key × P) := l.map fun z => (.inr z.1, .tup [rowP z.2.1, rowP z.2.2])
/-- the place of a name -/
def NetR.place (N : NetR) (x : Str) : Option (List Fr) := match N.pegs.lookup x with
  | some r => some r
  | none => (N.rings.lookup x).map (·.1)
/-- the drafts within the heap -/
structure DrAt (h : AH) (d : Nat) (N : NetR) : Prop where
  ex : ∃ (p r : Nat) (fs : List (Option P)), h[d]? = some (.ins "Drafts" fs) ∧ fs[0]? = some (some (.int N.coords)) ∧ fs[2]? = some (some (.obj p)) ∧ fs[3]? = some (some (.obj r)) ∧ h[p]? = some (.dct (pegK N.pegs)) ∧ h[r]? = some (.dct (ringK N.rings))
structure NetAt (h : AH) (n : Nat) (N : NetR) : Prop where
  ex : ∃ (d : Nat) (fs : List (Option P)), h[n]? = some (.ins "Net" fs) ∧ fs[0]? = some (some (.tup (N.cords.map pairP))) ∧ fs[1]? = some (some (.obj d)) ∧ fs[3]? = some (some (.str N.text)) ∧ DrAt h d N
theorem DrAt.app {h j : AH} {d : Nat} {N : NetR} (D : DrAt h d N) : DrAt (h ++ j) d N := by
  obtain ⟨p, r, fs, e1, e2, e3, e4, e5, e6⟩ := D.ex
  exact ⟨p, r, fs, get_app e1, e2, e3, e4, get_app e5, get_app e6⟩
theorem NetAt.app {h j : AH} {n : Nat} {N : NetR} (D : NetAt h n N) : NetAt (h ++ j) n N := by
  obtain ⟨d, fs, e1, e2, e3, e4, e5⟩ := D.ex
  exact ⟨d, fs, get_app e1, e2, e3, e4, e5.app⟩
section
variable {h : AH} {n : Nat} {N : NetR}
theorem p_text (D : NetAt h n N) : True := trivial
theorem p_cords (D : NetAt h n N) : m_Net_cords [.obj n] h = .ok (.tup (N.cords.map pairP)) h := by
  obtain ⟨d, fs, e1, e2, e3, e4, e5⟩ := D.ex
  refine fn_rt0 ?_
  unfold b_Net_cords
  rw [sR_at, eSlot_of (n := n) (by simp) e1 e2]
  rfl
theorem p_coords (D : NetAt h n N) : m_Net_coords [.obj n] h = .ok (.int N.coords) h := by
  obtain ⟨d, fs, e1, e2, e3, e4, e5⟩ := D.ex
  obtain ⟨p, r, gs, f1, f2, f3, f4, f5, f6⟩ := e5.ex
  refine fn_rt0 ?_
  unfold b_Net_coords
  rw [sR_at, eSlot_of (eSlot_of (n := n) (by simp) e1 e3) f1 f2]
  rfl
theorem keys_pegs (l : List (Str × List Fr)) : (pegK l).map (fun kv : Key × P => keyP kv.1) = (l.map (·.1)).map P.str := by
  unfold pegK
  rw [List.map_map, List.map_map]
  rfl
theorem keys_rings (l : List (Str × List Fr × List Fr)) : (ringK l).map (fun kv : Key × P => keyP kv.1) = (l.map (·.1)).map P.str := by
  unfold ringK
  rw [List.map_map, List.map_map]
  rfl
theorem p_pegs (D : NetAt h n N) : m_Net_pegs [.obj n] h = .ok (.tup (N.pegNames.map P.str)) h := by
  obtain ⟨d, fs, e1, e2, e3, e4, e5⟩ := D.ex
  obtain ⟨p, r, gs, f1, f2, f3, f4, f5, f6⟩ := e5.ex
  refine fn_rt0 ?_
  unfold b_Net_pegs
  rw [sR_at, eCB_at, lC_at, eSlot_of (eSlot_of (n := n) (by simp) e1 e3) f1 f3]
  unfold NetR.pegNames
  rw [← keys_pegs]
  simp [tup_dct f5]
theorem p_rings (D : NetAt h n N) : m_Net_rings [.obj n] h = .ok (.tup (N.ringNames.map P.str)) h := by
  obtain ⟨d, fs, e1, e2, e3, e4, e5⟩ := D.ex
  obtain ⟨p, r, gs, f1, f2, f3, f4, f5, f6⟩ := e5.ex
  refine fn_rt0 ?_
  unfold b_Net_rings
  rw [sR_at, eCB_at, lC_at, eSlot_of (eSlot_of (n := n) (by simp) e1 e3) f1 f4]
  unfold NetR.ringNames
  rw [← keys_rings]
  simp [tupD_dct f6, tup_dct f6]
theorem p_len (D : NetAt h n N) : m_Net_u_len_u [.obj n] h = .ok (.int (N.rings.length : Nat)) h := by
  obtain ⟨d, fs, e1, e2, e3, e4, e5⟩ := D.ex
  obtain ⟨p, r, gs, f1, f2, f3, f4, f5, f6⟩ := e5.ex
  refine fn_rt0 ?_
  unfold b_Net_u_len_u
  rw [sR_at, eCB_at, lC_at, eSlot_of (eSlot_of (n := n) (by simp) e1 e3) f1 f4]
  simp [len_dct f6, ringK]
theorem net_len (D : NetAt h n N) (l : N.rings.length < 1000) : fLenO "Net" m_Net_u_len_u [.obj n] h = .ok (.int (N.rings.length : Nat)) h := by
  obtain ⟨d, fs, e1, _⟩ := D.ex
  exact fLenO_of e1 (p_len D) (by omega)
/-- a property of the net in a slot -/
theorem prop_at {m : Fn} {i : Nat} {t : AM.Loc} {p : P} (D : NetAt h n N) (e : t[i]? = some (some (.obj n))) (e2 : m [.obj n] h = .ok p h) : eProp "Net" m (eV i) t h = .ok p h := by
  obtain ⟨d, fs, e1, _⟩ := D.ex
  exact eProp_of (eV_some e) e1 e2
theorem p_check_name (D : NetAt h n N) {x : Str} (hx : x ∈ N.names) (l : N.names.length ≤ 1000) : m_check_name [.obj n, .str x] h = .ok .non h := by
  refine fn_nx0 (t := [some (.obj n), some (.str x)]) ?_
  unfold b_check_name
  have e1 := prop_at (i := 0) (t := [some (.obj n), some (.str x)]) D rfl (p_pegs D)
  have e2 := prop_at (i := 0) (t := [some (.obj n), some (.str x)]) D rfl (p_rings D)
  have e3 : m_is_string [.str x, .tup (N.names.map P.str)] h = .ok (.bl true) h := by
    refine fn_rt0 ?_
    unfold b_is_string
    simp [tyB, cmp_in_strs, hx]
  unfold NetR.names at e3 l
  rw [List.map_append] at e3
  rw [List.length_append] at l
  have l3 : small (N.pegNames.length + N.ringNames.length) = true := small_true (by omega)
  simp [e1, e2, l3, e3]
theorem p_place {d : Nat} (D : DrAt h d N) {x : Str} {r : List Fr} (e : N.place x = some r) : m_Drafts_place [.obj d, .str x] h = .ok (rowP r) h := by
  obtain ⟨p, q, gs, f1, f2, f3, f4, f5, f6⟩ := D.ex
  refine fn_rt0 ?_
  unfold b_Drafts_place
  have s1 : eSlot "Drafts" 2 (eV 0) [some (.obj d), some (.str x)] h = .ok (.obj p) h := eSlot_of (eV_some rfl) f1 f3
  have s2 : eSlot "Drafts" 3 (eV 0) [some (.obj d), some (.str x)] h = .ok (.obj q) h := eSlot_of (eV_some rfl) f1 f4
  have g1 : getP (pegK N.pegs) (.inr x) = (N.pegs.lookup x).map rowP := getP_map _ _ _
  have g2 : getP (ringK N.rings) (.inr x) = (N.rings.lookup x).map fun z => .tup [rowP z.1, rowP z.2] := getP_map (fun z : List Fr × List Fr => P.tup [rowP z.1, rowP z.2]) _ _
  unfold NetR.place at e
  cases c : N.pegs.lookup x with
  | some r1 =>
    rw [c] at e g1
    have e : r1 = r := Option.some.inj e
    subst e
    simp [s1, cmp_in_dct f5, g1, item_dct f5 g1]
  | none =>
    rw [c] at e g1
    cases c2 : N.rings.lookup x with
    | none => rw [c2] at e; cases e
    | some z =>
      rw [c2] at e g2
      have e : z.1 = r := Option.some.inj e
      subst e
      simp [s1, s2, cmp_in_dct f5, g1, item_dct f6 g2]
theorem p_place_of (D : NetAt h n N) {x : Str} {r : List Fr} (hx : x ∈ N.names) (l : N.names.length ≤ 1000) (e : N.place x = some r) : m_place_of [.obj n, .str x] h = .ok (rowP r) h := by
  have c := p_check_name D hx l
  obtain ⟨d, fs, e1, e2, e3, e4, e5⟩ := D.ex
  obtain ⟨p, q, gs, f1, _⟩ := e5.ex
  refine fn_rt0 ?_
  unfold b_place_of
  have s1 : eSlot "Net" 1 (eV 0) [some (.obj n), some (.str x)] h = .ok (.obj d) h := eSlot_of (eV_some rfl) e1 e3
  have s2 : eMeth "Drafts" 2 m_Drafts_place (eSlot "Net" 1 (eV 0)) (lC (eV 1) lN) [some (.obj n), some (.str x)] h = m_Drafts_place [.obj d, .str x] h := eMeth_of s1 f1 (by simp) rfl
  simp [c, s2, p_place e5 e]
end
end
end K13


/-! placements -/
namespace K13
open PySem PySem.Spec PyProof.Rows L2 AM
noncomputable section
structure NetOk (N : NetR) : Prop where
  c1 : 1 ≤ N.coords
  c3 : N.coords ≤ 3
  nd : N.names.Nodup
  np : N.pegs.length ≤ 16
  nr : N.rings.length ≤ 8
  nc : N.cords.length ≤ 20
  peg : ∀ z ∈ N.pegs, RowOk 10 z.2 ∧ z.2.length = N.coords
  ring : ∀ z ∈ N.rings, (RowOk 10 z.2.1 ∧ z.2.1.length = N.coords) ∧ RowOk 10 z.2.2 ∧ z.2.2.length = N.coords
  cord : ∀ c ∈ N.cords, c.1 ∈ N.names ∧ c.2 ∈ N.names
def NetR.placeD (N : NetR) (x : Str) : List Fr := (N.place x).getD []
def NetR.weightD (N : NetR) (x : Str) : List Fr := match N.rings.lookup x with
  | some z => z.2
  | none => List.replicate N.coords (0, 1)
theorem lookup_some {α : Type} {x : Str} : ∀ {l : List (Str × α)}, x ∈ l.map (·.1) → ∃ a, l.lookup x = some a ∧ (x, a) ∈ l
  | [], h => by simp at h
  | (y, a) :: l, h => by
    rw [List.lookup_cons]
    by_cases e : x = y
    · subst e
      refine ⟨a, ?_, List.mem_cons_self ..⟩
      rw [beq_self_eq_true]
    · have e2 : (x == y) = false := beq_eq_false_iff_ne.mpr e
      rw [e2]
      have h2 : x ∈ l.map (·.1) := by
        rcases List.mem_cons.mp h with z | z
        · exact absurd z e
        · exact z
      obtain ⟨b, h3, h4⟩ := lookup_some h2
      exact ⟨b, h3, List.mem_cons_of_mem _ h4⟩
theorem lookup_none {α : Type} {x : Str} : ∀ {l : List (Str × α)}, x ∉ l.map (·.1) → l.lookup x = none
  | [], _ => rfl
  | (y, a) :: l, h => by
    rw [List.lookup_cons]
    have e2 : (x == y) = false := beq_eq_false_iff_ne.mpr fun e => h (by rw [e]; exact List.mem_cons_self ..)
    rw [e2]
    exact lookup_none fun z => h (List.mem_cons_of_mem _ z)
section
variable {h : AH} {n : Nat} {N : NetR}
theorem NetOk.few (V : NetOk N) : N.names.length ≤ 1000 := by
  unfold NetR.names NetR.pegNames NetR.ringNames
  rw [List.length_append, List.length_map, List.length_map]
  have := V.np
  have := V.nr
  omega
theorem NetOk.place (V : NetOk N) {x : Str} (hx : x ∈ N.names) : N.place x = some (N.placeD x) ∧ RowOk 10 (N.placeD x) ∧ (N.placeD x).length = N.coords := by
  have main : ∃ r, N.place x = some r ∧ RowOk 10 r ∧ r.length = N.coords := by
    unfold NetR.place
    unfold NetR.names NetR.pegNames NetR.ringNames at hx
    by_cases hp : x ∈ N.pegs.map (·.1)
    · obtain ⟨r, e1, e2⟩ := lookup_some hp
      rw [e1]
      exact ⟨r, rfl, (V.peg _ e2).1, (V.peg _ e2).2⟩
    · rw [lookup_none hp]
      obtain ⟨z, e1, e2⟩ := lookup_some ((List.mem_append.mp hx).resolve_left hp)
      rw [e1]
      exact ⟨z.1, rfl, (V.ring _ e2).1.1, (V.ring _ e2).1.2⟩
  obtain ⟨r, e, a, b⟩ := main
  unfold NetR.placeD
  rw [e]
  exact ⟨rfl, a, b⟩
theorem place_of (D : NetAt h n N) (V : NetOk N) {x : Str} (hx : x ∈ N.names) : m_place_of [.obj n, .str x] h = .ok (rowP (N.placeD x)) h := p_place_of D hx V.few (V.place hx).1
theorem way_of (D : NetAt h n N) (V : NetOk N) {k : Nat} {c : Str × Str} (e : N.cords[k]? = some c) : m_way_of [.obj n, .int (k : Nat)] h = .ok (rowP (rowLess (N.placeD c.2) (N.placeD c.1))) h := by
  have hc := V.cord c (List.mem_of_getElem? e)
  have pc := p_cords D
  obtain ⟨d, fs, e1, e2, e3, e4, e5⟩ := D.ex
  obtain ⟨p, q, gs, f1, _⟩ := e5.ex
  refine fn_rt0 ?_
  unfold b_way_of
  have s0 := prop_at (i := 0) (t := [some (.obj n), some (.int (k : Nat)), none, none]) D rfl pc
  have ix : atI (N.cords.map pairP) (k : Int) = some (pairP c) := by rw [AM.atI_nat, List.getElem?_map, e]; rfl
  have s1 : ∀ a b, eMeth "Drafts" 2 m_Drafts_place (eSlot "Net" 1 (eV 0)) (lC (eV 2) lN) [some (.obj n), some (.int (k : Nat)), some (.str a), some (.str b)] h = m_Drafts_place [.obj d, .str a] h := fun a b => eMeth_of (eSlot_of (eV_some rfl) e1 e3) f1 (by simp) rfl
  have s2 : ∀ a b, eMeth "Drafts" 2 m_Drafts_place (eSlot "Net" 1 (eV 0)) (lC (eV 3) lN) [some (.obj n), some (.int (k : Nat)), some (.str a), some (.str b)] h = m_Drafts_place [.obj d, .str b] h := fun a b => eMeth_of (eSlot_of (eV_some rfl) e1 e3) f1 (by simp) rfl
  obtain ⟨p1, r1, l1⟩ := V.place hc.1
  obtain ⟨p2, r2, l2⟩ := V.place hc.2
  have c3 := V.c3
  simp [s0, ix, pairP, s1, s2, p_place e5 p1, p_place e5 p2, p_row_less h r2 r1 (by omega) (by omega)]
theorem check_cord (D : NetAt h n N) {k : Nat} (l : k < N.cords.length) : m_check_cord [.obj n, .int (k : Nat)] h = .ok .non h := by
  refine fn_nx0 (t := [some (.obj n), some (.int (k : Nat))]) ?_
  unfold b_check_cord
  have s0 := prop_at (i := 0) (t := [some (.obj n), some (.int (k : Nat))]) D rfl (p_cords D)
  have a1 : (0 : Int) ≤ k := by omega
  have a2 : (k : Int) ≤ (N.cords.length : Int) - 1 := by omega
  simp [s0, p_is_integer, a1, a2]
def NetR.wayD (N : NetR) (c : Str × Str) : List Fr := rowLess (N.placeD c.2) (N.placeD c.1)
def NetR.sqD (N : NetR) (c : Str × Str) : Fr := rowSq (N.wayD c)
theorem rowLess_len (r s : List Fr) : (rowLess r s).length = min r.length s.length := by
  unfold rowLess zipF
  rw [List.length_map, List.length_zip]
theorem way_ok (V : NetOk N) {c : Str × Str} (hc : c ∈ N.cords) : RowOk 21 (N.wayD c) ∧ (N.wayD c).length = N.coords := by
  obtain ⟨h1, h2⟩ := V.cord c hc
  obtain ⟨_, r1, l1⟩ := V.place h1
  obtain ⟨_, r2, l2⟩ := V.place h2
  refine ⟨r2.less r1, ?_⟩
  unfold NetR.wayD
  rw [rowLess_len, l1, l2]
  omega
theorem sq_ok (V : NetOk N) {c : Str × Str} (hc : c ∈ N.cords) : FrOk 130 (N.sqD c) := by
  obtain ⟨r, l⟩ := way_ok V hc
  refine (rowProd_ok r r).mono ?_
  rw [l]
  have := V.c3
  have : N.coords * (21 + 21 + 1) ≤ 3 * (21 + 21 + 1) := Nat.mul_le_mul_right _ this
  omega
theorem square_of (D : NetAt h n N) (V : NetOk N) {k : Nat} {c : Str × Str} (e : N.cords[k]? = some c) : m_square_of [.obj n, .int (k : Nat)] h = .ok (ratP (N.sqD c)) h := by
  refine fn_rt0 ?_
  unfold b_square_of
  obtain ⟨r, l⟩ := way_ok V (List.mem_of_getElem? e)
  have c3 := V.c3
  have sq : m_row_square [rowP (rowLess (N.placeD c.2) (N.placeD c.1))] h = .ok (ratP (N.sqD c)) h := p_row_square h r (by
    show (N.wayD c).length * (21 + 21 + 1) + 21 + 21 < 8900
    rw [l]
    have : N.coords * (21 + 21 + 1) ≤ 3 * (21 + 21 + 1) := Nat.mul_le_mul_right _ c3
    omega) (by
    show (N.wayD c).length ≤ 1000
    omega)
  simp [check_cord D (List.getElem?_eq_some_iff.mp e).1, way_of D V e, sq]
/-- the numbers of the cords at a name -/
def NetR.cordsAt (N : NetR) (x : Str) : List Nat := (enumF 0 N.cords).filterMap fun z => if x = z.2.1 ∨ x = z.2.2 then some z.1 else none
theorem cmp_in_pair (x a b : Str) (h : AH) : cmpV inP (.str x) (.tup [.str a, .str b]) h = .ok (decide (x = a ∨ x = b)) h := by
  have z := cmp_in_strs x [a, b] h
  rw [show ([a, b].map P.str) = [.str a, .str b] from rfl] at z
  rw [z]
  simp
theorem cords_at (D : NetAt h n N) (V : NetOk N) {x : Str} (hx : x ∈ N.names) : m_cords_at [.obj n, .str x] h = .ok (.tup ((N.cordsAt x).map fun k => .int (k : Nat))) h := by
  refine fn_rt0 ?_
  unfold b_cords_at
  have s0 := prop_at (i := 0) (t := [some (.obj n), some (.str x), none, none]) D rfl (p_cords D)
  have nc := V.nc
  have e := lc_run (S := ⟨(enumF 0 N.cords).map fun z => .tup [.int (z.1 : Nat), pairP z.2], []⟩) (h := h) (g := gT 2 (gsC (gN 2) (gsC (gN 3) gsN))) (c := tCp inP (eV 1) (eV 3)) (e := eV 2) (t := [some (.obj n), some (.str x), none, none])
    (fun z : Nat × Str × Str => .tup [.int (z.1 : Nat), pairP z.2]) (fun z => if x = z.2.1 ∨ x = z.2.2 then some (.int (z.1 : Nat)) else none) (fun acc => (still_none _ _ _).mpr trivial) (ys := enumF 0 N.cords) (acc := [])
    (fun z hz acc => by
      refine ⟨_, by simp; rfl, ?_⟩
      by_cases hc : x = z.2.1 ∨ x = z.2.2
      · rw [if_pos hc]
        exact ⟨[], [], by simp [pairP, cmp_in_pair, hc], by simp, rfl⟩
      · rw [if_neg hc]
        exact ⟨[], by simp [pairP, cmp_in_pair, hc]⟩) (by rw [enumF_len]; simp; omega)
  simp [p_check_name D hx V.few, s0, eLc_at, enumP_map, e]
  unfold NetR.cordsAt
  rw [List.map_filterMap]
  congr 1
  funext z
  split <;> rfl
end
end
end K13


/-! placements: spots, slacks -/
namespace K13
open PySem PySem.Spec PyProof.Rows L2 AM
noncomputable section
def ledD (r : List Fr) (m : Nat) : List Fr := r ++ List.replicate (m - r.length) (0, 1)
def widthD (N : NetR) : List (List Fr) → Nat
  | [] => N.coords
  | r :: _ => r.length
/-- rows as many as rings, of one length, of b bits -/
structure PlOk (N : NetR) (b w : Nat) (pl : List (List Fr)) : Prop where
  len : pl.length = N.rings.length
  row : ∀ r ∈ pl, RowOk b r ∧ r.length = w
  emp : pl = [] → w = N.coords
  lo : N.coords ≤ w
  hi : w ≤ 12
  b1 : 10 ≤ b
  b2 : b ≤ 60
def NetR.spotD (N : NetR) (pl : List (List Fr)) (x : Str) : List Fr := if x ∈ N.ringNames then pl.getD (N.ringNames.idxOf x) [] else ledD (N.placeD x) (widthD N pl)
def NetR.apartD (N : NetR) (pl : List (List Fr)) (x y : Str) : Fr := rowSq (rowLess (N.spotD pl x) (N.spotD pl y))
def NetR.looseD (N : NetR) (pl : List (List Fr)) : List Fr := N.cords.map fun c => lessF (N.sqD c) (N.apartD pl c.1 c.2)
section
variable {h : AH} {n : Nat} {N : NetR} {b w : Nat} {pl : List (List Fr)}
theorem PlOk.width (Q : PlOk N b w pl) : widthD N pl = w := by
  cases pl with
  | nil => exact (Q.emp rfl).symm
  | cons r pl => exact (Q.row r (List.mem_cons_self ..)).2
theorem led_ok {r : List Fr} {m : Nat} (hr : RowOk b r) (hb : 10 ≤ b) : RowOk b (ledD r m) := by
  intro x hx
  rcases List.mem_append.mp hx with z | z
  · exact hr x z
  · rw [(List.mem_replicate.mp z).2]
    exact nought_ok.mono (by omega)
theorem led_len {r : List Fr} {m : Nat} (l : r.length ≤ m) : (ledD r m).length = m := by
  unfold ledD
  rw [List.length_append, List.length_replicate]
  omega
theorem led_on {r : List Fr} {m : Nat} (h : AH) (l : r.length ≤ 1000) (lm : m ≤ 1000) : m_led_on [rowP r, .int (m : Nat)] h = .ok (rowP (ledD r m)) h := by
  refine fn_rt0 ?_
  unfold b_led_on
  have hf : fitI ((m : Int) - (r.length : Int)) = true := by
    unfold fitI
    rw [decide_eq_true (by omega), decide_eq_true (by omega)]
    rfl
  have ek : ((m : Int) - (r.length : Int) - 0).toNat = m - r.length := by omega
  have e : ∀ t, t = [some (rowP r), some (.int (m : Nat)), none] → lcF (rgS 0 ((m : Int) - (r.length : Int))) h (gN 2) tY (eC (.tup [.int 0, .int 1])) t (rgS 0 ((m : Int) - (r.length : Int))).xs [] h = .ok (.lst ((List.replicate (m - r.length) (0, 1)).map ratP)) h := by
    rintro t rfl
    unfold rgS
    rw [ek]
    rw [lc_map0 _ (fun _ => .tup [.int 0, .int 1]) (by simp; omega) fun y hy hh => ⟨_, rfl, rfl, rfl⟩]
    congr 2
    rw [List.map_replicate]
    refine List.eq_replicate_iff.mpr ⟨by simp, fun q hq => ?_⟩
    obtain ⟨_, _, rfl⟩ := List.mem_map.mp hq
    rfl
  have sm : small (r.length + (m - r.length)) = true := small_true (by omega)
  unfold rowP at e ⊢
  have r1 : srcR1 [.int ((m : Int) - (r.length : Int))] h = .ok (rgS 0 ((m : Int) - (r.length : Int))) h := by
    show (if fitI ((m : Int) - (r.length : Int)) = true then Out.ok (rgS 0 ((m : Int) - (r.length : Int))) h else .bad) = _
    rw [if_pos hf]
  simp [eLc_at, r1, e, sm]
  unfold ledD
  simp
theorem width_of (D : NetAt h n N) : m_width_of [.obj n, plP pl] h = .ok (.int (widthD N pl : Nat)) h := by
  refine fn_rt0 ?_
  unfold b_width_of
  have s0 := prop_at (i := 0) (t := [some (.obj n), some (plP pl)]) D rfl (p_coords D)
  have c := pl_ne_empty pl h
  cases pl with
  | nil =>
    simp [c, s0]
    rfl
  | cons r pl =>
    simp [c]
    unfold plP
    simp [rowP]
    rfl
theorem spot_in (D : NetAt h n N) (V : NetOk N) (Q : PlOk N b w pl) {x : Str} (hx : x ∈ N.names) : m_spot [.obj n, plP pl, .str x] h = .ok (rowP (N.spotD pl x)) h := by
  refine fn_rt0 ?_
  unfold b_spot
  have s0 := prop_at (i := 0) (t := [some (.obj n), some (plP pl), some (.str x)]) D rfl (p_rings D)
  obtain ⟨p1, r1, l1⟩ := V.place hx
  have c3 := V.c3
  have hi := Q.hi
  by_cases hr : x ∈ N.ringNames
  · have ix : eIdx "Net" m_Net_rings (eV 0) (eV 2) [some (.obj n), some (plP pl), some (.str x)] h = .ok (.int (N.ringNames.idxOf x : Nat)) h := by
      unfold eIdx
      rw [s0]
      simp [idx_strs hr]
    have lt : N.ringNames.idxOf x < pl.length := by
      rw [Q.len]
      have := List.idxOf_lt_length_of_mem hr
      unfold NetR.ringNames at this
      rw [List.length_map] at this
      exact this
    have at_ : atI (pl.map rowP) (N.ringNames.idxOf x : Int) = some (rowP (pl.getD (N.ringNames.idxOf x) [])) := by
      rw [AM.atI_nat, List.getElem?_map, List.getElem?_eq_getElem lt]
      simp [List.getD_eq_getElem?_getD, lt]
    unfold NetR.spotD
    rw [if_pos hr]
    simp [s0, cmp_in_strs, hr, ix]
    unfold plP
    simp [at_]
  · unfold NetR.spotD
    rw [if_neg hr]
    have lw : widthD N pl ≤ 1000 := by rw [Q.width]; omega
    simp [s0, cmp_in_strs, hr, place_of D V hx, width_of D, led_on (r := N.placeD x) (m := widthD N pl) h (by omega) lw]
end
end
end K13


/-! placements: what they are -/
namespace K13
open PySem PySem.Spec PyProof.Rows L2 AM
noncomputable section
section
variable {h : AH} {n : Nat} {N : NetR} {b w : Nat} {pl : List (List Fr)}
theorem spot_ok (V : NetOk N) (Q : PlOk N b w pl) {x : Str} (hx : x ∈ N.names) : RowOk b (N.spotD pl x) ∧ (N.spotD pl x).length = w := by
  unfold NetR.spotD
  obtain ⟨p1, r1, l1⟩ := V.place hx
  split
  · rename_i hr
    have lt : N.ringNames.idxOf x < pl.length := by
      rw [Q.len]
      have := List.idxOf_lt_length_of_mem hr
      unfold NetR.ringNames at this
      rw [List.length_map] at this
      exact this
    rw [List.getD_eq_getElem?_getD, List.getElem?_eq_getElem lt]
    exact Q.row _ (List.getElem_mem lt)
  · rw [Q.width]
    exact ⟨led_ok (r1.mono Q.b1) Q.b1, led_len (by rw [l1]; exact Q.lo)⟩
theorem apart_bits (V : NetOk N) (Q : PlOk N b w pl) {x y : Str} (hx : x ∈ N.names) (hy : y ∈ N.names) : FrOk 3000 (N.apartD pl x y) := by
  obtain ⟨r1, l1⟩ := spot_ok V Q hx
  obtain ⟨r2, l2⟩ := spot_ok V Q hy
  have b2 := Q.b2
  have r := (r1.mono b2).less (r2.mono b2)
  refine (rowProd_ok r r).mono ?_
  rw [rowLess_len, l1, l2, Nat.min_self]
  have : w * (60 + 60 + 1 + (60 + 60 + 1) + 1) ≤ 12 * (60 + 60 + 1 + (60 + 60 + 1) + 1) := Nat.mul_le_mul_right _ Q.hi
  omega
theorem square_apart (D : NetAt h n N) (V : NetOk N) (Q : PlOk N b w pl) {x y : Str} (hx : x ∈ N.names) (hy : y ∈ N.names) : m_square_apart [.obj n, plP pl, .str x, .str y] h = .ok (ratP (N.apartD pl x y)) h := by
  refine fn_rt0 ?_
  unfold b_square_apart
  obtain ⟨r1, l1⟩ := spot_ok V Q hx
  obtain ⟨r2, l2⟩ := spot_ok V Q hy
  have b2 := Q.b2
  have hi := Q.hi
  have e1 := p_row_less h (r1.mono b2) (r2.mono b2) (by omega) (by omega : (N.spotD pl x).length ≤ 1000)
  have ll : (rowLess (N.spotD pl x) (N.spotD pl y)).length = w := by rw [rowLess_len, l1, l2, Nat.min_self]
  have e2 := p_row_square h ((r1.mono b2).less (r2.mono b2)) (by
    rw [ll]
    have : w * (60 + 60 + 1 + (60 + 60 + 1) + 1) ≤ 12 * (60 + 60 + 1 + (60 + 60 + 1) + 1) := Nat.mul_le_mul_right _ hi
    omega) (by omega)
  simp [spot_in D V Q hx, spot_in D V Q hy, e1, e2]
  rfl
theorem loose_bits (V : NetOk N) (Q : PlOk N b w pl) : ∀ x ∈ N.looseD pl, FrOk 4000 x := by
  intro x hx
  obtain ⟨c, hc, rfl⟩ := List.mem_map.mp hx
  obtain ⟨h1, h2⟩ := V.cord c hc
  exact ((sq_ok V hc).less (apart_bits V Q h1 h2)).mono (by omega)
theorem enumF_map {α β : Type} (f : α → β) : ∀ (xs : List α) (k : Nat), (enumF k xs).map (fun z => f z.2) = xs.map f
  | [], _ => rfl
  | x :: xs, k => by
    show f x :: (enumF (k + 1) xs).map _ = f x :: xs.map f
    rw [enumF_map f xs (k + 1)]
theorem loose_by (D : NetAt h n N) (V : NetOk N) (Q : PlOk N b w pl) : m_loose_by [.obj n, plP pl] h = .ok (rowP (N.looseD pl)) h := by
  have nc := V.nc
  obtain ⟨t2, ⟨x1, x2, x3, et⟩, ef⟩ := for_append (S := ⟨(enumF 0 N.cords).map fun z => .tup [.int (z.1 : Nat), pairP z.2], []⟩) (h0 := h ++ [.lst []]) (h := h) (g := gT 2 (gsC (gN 3) (gsC (gT 2 (gsC (gN 4) (gsC (gN 5) gsN))) gsN)))
    (b := sE (eBM "list" mAppend (eV 2) (lC (eCall 2 m_less (lC (eCall 2 m_square_of (lC (eV 0) (lC (eV 3) lN))) (lC (eCall 4 m_square_apart (lC (eV 0) (lC (eV 1) (lC (eV 4) (lC (eV 5) lN))))) lN))) lN)))
    (fun t => ∃ x1 x2 x3, t = [some (.obj n), some (plP pl), some (.obj h.length), x1, x2, x3]) (fun z : Nat × Str × Str => .tup [.int (z.1 : Nat), pairP z.2]) (fun z => ratP (lessF (N.sqD z.2) (N.apartD pl z.2.1 z.2.2))) rfl
    (ys := enumF 0 N.cords) (acc := []) (t := [some (.obj n), some (plP pl), some (.obj h.length), none, none, none]) ⟨none, none, none, rfl⟩
    (fun z hz t acc ⟨x1, x2, x3, et⟩ la => by
      subst et
      obtain ⟨k, c⟩ := z
      obtain ⟨_, e⟩ := enumF_mem hz
      have e : N.cords[k]? = some c := by simpa using e
      have hc := List.mem_of_getElem? e
      obtain ⟨h1, h2⟩ := V.cord c hc
      have D2 : NetAt (h ++ [.lst acc]) n N := D.app
      have sq := square_of D2 V e
      have ap := square_apart D2 V Q h1 h2
      have ls := p_less (h ++ [.lst acc]) (sq_ok V hc) (apart_bits V Q h1 h2) (by omega)
      refine ⟨_, [some (.obj n), some (plP pl), some (.obj h.length), some (.int (k : Nat)), some (.str c.1), some (.str c.2)], by simp [pairP]; rfl, ?_, _, _, _, rfl⟩
      have la2 : acc.length < 16777216 := by omega
      simp [isTy_last, sq, ap, ls, append_last la2]) (by rw [enumF_len]; simp; omega)
  refine fn_rt (j := [.lst ((N.looseD pl).map ratP)]) ?_ (clean_row _ _)
  unfold b_loose_by
  have s0 : ∀ t, t = [some (.obj n), some (plP pl), some (.obj h.length), none, none, none] → eProp "Net" m_Net_cords (eV 0) t (h ++ [.lst []]) = .ok (.tup (N.cords.map pairP)) (h ++ [.lst []]) := fun t e => by
    subst e
    exact prop_at (i := 0) D.app rfl (p_cords D.app)
  have em : (enumF 0 N.cords).map (fun z => ratP (lessF (N.sqD z.2) (N.apartD pl z.2.1 z.2.2))) = (N.looseD pl).map ratP := by
    unfold NetR.looseD
    rw [List.map_map]
    exact enumF_map (fun c => ratP (lessF (N.sqD c) (N.apartD pl c.1 c.2))) N.cords 0
  rw [em] at ef
  simp only [List.nil_append] at ef
  simp [s0, enumP_map, ef, et]
  simp [tup_last]
  rfl
theorem row_P (r : List Fr) : rowP r = .tup (r.map ratP) := rfl
theorem are_rows (D : NetAt h n N) (V : NetOk N) (Q : PlOk N b w pl) : m_are_rows [.obj n, plP pl] h = .ok (.bl true) h := by
  refine fn_rt0 ?_
  unfold b_are_rows
  have nr := V.nr
  have ln := net_len D (by omega)
  have it := p_is_tuple (pl.map rowP) (N.rings.length : Nat) (N.rings.length : Nat) h
  rw [List.length_map, Q.len] at it
  have e : ∀ t, t = [some (.obj n), some (plP pl), none] → lcF ⟨pl.map rowP, []⟩ h (gN 2) tY (eCall 3 m_is_row (lC (eV 2) (lC (eProp "Net" m_Net_coords (eV 0)) (lC (eC (.int 12)) lN)))) t (pl.map rowP) [] h = .ok (.lst (pl.map fun _ => .bl true)) h := by
    rintro t rfl
    refine lc_map _ _ (by rw [Q.len]; omega) fun r hr acc => ?_
    obtain ⟨r1, r2⟩ := Q.row r hr
    have D2 : NetAt (h ++ [.lst acc]) n N := D.app
    have s0 := prop_at (i := 0) (t := [some (.obj n), some (plP pl), some (rowP r)]) D2 rfl (p_coords D2)
    have ir := p_is_row (h ++ [.lst acc]) r1 (N.coords : Int) 12 (by rw [r2]; have := Q.hi; omega)
    rw [r2, decide_eq_true (by have := Q.lo; omega), decide_eq_true (by have := Q.hi; omega)] at ir
    exact ⟨_, [], rfl, by simp [s0, ir], rfl⟩
  have e2 : ∀ t, t = [some (.obj n), some (plP pl), none] → lcF ⟨pl.map rowP, []⟩ h (gN 2) tY (eCmp eqP (eCB fLen (lC (eV 2) lN)) (eCB fLen (lC (eB itemP (eV 1) (eC (.int 0))) lN))) t (pl.map rowP) [] h = .ok (.lst (pl.map fun _ => .bl true)) h := by
    rintro t rfl
    refine lc_map0 _ _ (by rw [Q.len]; omega) fun r hr hh => ?_
    cases hp : pl with
    | nil => rw [hp] at hr; cases hr
    | cons r0 rs =>
      have l0 := (Q.row r0 (by rw [hp]; exact List.mem_cons_self ..)).2
      have l1 := (Q.row r hr).2
      exact ⟨_, rfl, by simp [plP, row_P, l0, l1], rfl⟩
  have e3 := f_all (pl.map fun _ => true) h
  rw [List.map_map] at e3
  simp only [Function.comp_def] at e3
  have a1 : (pl.all fun _ => true) = true := by simp
  unfold plP at e e2 ⊢
  simp [ln, it, eLc_at, e, e2]
  simp at e3
  simp [e3, eLc_at, e2]
theorem is_placement (D : NetAt h n N) (V : NetOk N) (Q : PlOk N b w pl) : m_is_placement [.obj n, plP pl] h = .ok (.bl (!(N.looseD pl).any fun x => belowF x (0, 1))) h := by
  refine fn_rt0 ?_
  unfold b_is_placement
  have e : ∀ t, t = [some (.obj n), some (plP pl), none] → lcF ⟨(N.looseD pl).map ratP, []⟩ h (gN 2) tY (eCall 2 m_is_below (lC (eV 2) (lC (eC (.tup [.int 0, .int 1])) lN))) t ((N.looseD pl).map ratP) [] h = .ok (.lst ((N.looseD pl).map fun x => .bl (belowF x (0, 1)))) h := by
    rintro t rfl
    refine lc_map0 _ _ (by unfold NetR.looseD; rw [List.length_map]; have := V.nc; omega) fun x hx hh => ?_
    have z := p_is_below hh (loose_bits V Q x hx) nought_ok (by omega)
    exact ⟨_, rfl, by simp [show P.tup [.int 0, .int 1] = ratP (0, 1) from rfl, z], rfl⟩
  have e3 := f_any ((N.looseD pl).map fun x => belowF x (0, 1)) h
  rw [List.map_map] at e3
  simp only [Function.comp_def] at e3
  have lb := loose_by D V Q
  rw [row_P] at lb
  simp [are_rows D V Q, lb, eLc_at, e, e3]
end
end
end K13


/-! what is told of placements -/
namespace K13
open PySem PySem.Spec PyProof.Rows L2 AM
noncomputable section
def NetR.fits (N : NetR) (pl : List (List Fr)) : Bool := !(N.looseD pl).any fun x => belowF x (0, 1)
def NetR.picD (N : NetR) : List (List Fr) := N.ringNames.map N.placeD
def NetR.scoreD (N : NetR) (pl : List (List Fr)) : Fr := totalF ((N.ringNames.zip pl).map fun z => rowProd (N.weightD z.1) z.2)
def mixD (N : NetR) (one other : List (List Fr)) (share : Fr) : List (List Fr) :=
  (one.zip other).map fun z => rowPlus (rowTimes (ledD z.1 (max (widthD N one) (widthD N other))) (lessF (1, 1) share)) (rowTimes (ledD z.2 (max (widthD N one) (widthD N other))) share)
def movedD (N : NetR) (moves : List (List Fr)) (step : Fr) : List (List Fr) := (N.picD.zip moves).map fun z => rowPlus z.1 (rowTimes z.2 step)
section
variable {h : AH} {n : Nat} {N : NetR} {b w : Nat} {pl : List (List Fr)}
theorem check_placement (D : NetAt h n N) (V : NetOk N) (Q : PlOk N b w pl) (F : N.fits pl = true) : m_check_placement [.obj n, plP pl] h = .ok .non h := by
  refine fn_nx0 (t := [some (.obj n), some (plP pl)]) ?_
  unfold b_check_placement
  have z := is_placement D V Q
  rw [show (!(N.looseD pl).any fun x => belowF x (0, 1)) = true from F] at z
  simp [z]
theorem picture (D : NetAt h n N) (V : NetOk N) : m_picture [.obj n] h = .ok (plP N.picD) h := by
  refine fn_rt0 ?_
  unfold b_picture
  have s0 := prop_at (i := 0) (t := [some (.obj n), none]) D rfl (p_rings D)
  have nr := V.nr
  have e := lc_map (ys := N.ringNames) (h := h) (g := gN 1) (e := eCall 2 m_place_of (lC (eV 0) (lC (eV 1) lN))) (t := [some (.obj n), none]) P.str (fun x => rowP (N.placeD x)) (by unfold NetR.ringNames; rw [List.length_map]; omega) (fun x hx acc => by
    have hn : x ∈ N.names := List.mem_append_right _ hx
    exact ⟨_, [], rfl, by simp [place_of (D.app (j := [.lst acc])) V hn], clean_row _ _⟩)
  simp [s0, eLc_at, e]
  unfold plP NetR.picD
  rw [List.map_map]
  rfl
theorem lets (D : NetAt h n N) (V : NetOk N) (Q : PlOk N b w pl) (F : N.fits pl = true) : m_lets [.obj n, plP pl] h = .ok (rowP (N.looseD pl)) h := by
  refine fn_rt0 ?_
  unfold b_lets
  simp [check_placement D V Q F, loose_by D V Q]
theorem between (D : NetAt h n N) (V : NetOk N) (Q : PlOk N b w pl) (F : N.fits pl = true) {x y : Str} (hx : x ∈ N.names) (hy : y ∈ N.names) : m_between [.obj n, plP pl, .str x, .str y] h = .ok (ratP (N.apartD pl x y)) h := by
  refine fn_rt0 ?_
  unfold b_between
  simp [check_placement D V Q F, p_check_name D hx V.few, p_check_name D hy V.few, square_apart D V Q hx hy]
theorem weight_ring (D : NetAt h n N) (V : NetOk N) {x : Str} (hx : x ∈ N.ringNames) : m_weight_of [.obj n, .str x] h = .ok (rowP (N.weightD x)) h ∧ RowOk 10 (N.weightD x) ∧ (N.weightD x).length = N.coords := by
  have hn : x ∈ N.names := List.mem_append_right _ hx
  have c := p_check_name D hn V.few
  have s0 := prop_at (i := 0) (t := [some (.obj n), some (.str x)]) D rfl (p_rings D)
  obtain ⟨z, lk, hz⟩ := lookup_some hx
  have wd : N.weightD x = z.2 := by
    unfold NetR.weightD
    rw [lk]
  obtain ⟨_, r2, l2⟩ := V.ring _ hz
  rw [wd]
  refine ⟨?_, r2, l2⟩
  obtain ⟨d, fs, e1, e2, e3, e4, e5⟩ := D.ex
  obtain ⟨p, q, gs, f1, f2, f3, f4, f5, f6⟩ := e5.ex
  refine fn_rt0 ?_
  unfold b_weight_of
  have s1 : eSlot "Drafts" 3 (eSlot "Net" 1 (eV 0)) [some (.obj n), some (.str x)] h = .ok (.obj q) h := eSlot_of (eSlot_of (eV_some rfl) e1 e3) f1 f4
  have g2 : getP (ringK N.rings) (.inr x) = some (.tup [rowP z.1, rowP z.2]) := by
    have y := getP_map (fun z : List Fr × List Fr => P.tup [rowP z.1, rowP z.2]) x N.rings
    rw [lk] at y
    exact y
  simp [c, s0, cmp_in_strs, hx, s1, item_dct f6 g2]
theorem score (D : NetAt h n N) (V : NetOk N) (Q : PlOk N b w pl) (F : N.fits pl = true) : m_score [.obj n, plP pl] h = .ok (ratP (N.scoreD pl)) h := by
  refine fn_rt0 ?_
  unfold b_score
  have s0 := prop_at (i := 0) (t := [some (.obj n), some (plP pl), none, none]) D rfl (p_rings D)
  have nr := V.nr
  have c3 := V.c3
  have b2 := Q.b2
  have lr : N.ringNames.length = N.rings.length := by unfold NetR.ringNames; rw [List.length_map]
  have lz : (N.ringNames.zip pl).length ≤ 8 := by rw [List.length_zip]; omega
  have rp : ∀ z ∈ N.ringNames.zip pl, ∀ hh, NetAt hh n N → m_weight_of [.obj n, .str z.1] hh = .ok (rowP (N.weightD z.1)) hh ∧ m_row_product [rowP (N.weightD z.1), rowP z.2] hh = .ok (ratP (rowProd (N.weightD z.1) z.2)) hh ∧ FrOk 300 (rowProd (N.weightD z.1) z.2) := by
    rintro ⟨x, r⟩ hz hh D2
    obtain ⟨m1, m2⟩ := List.of_mem_zip hz
    obtain ⟨w1, w2, w3⟩ := weight_ring D2 V m1
    obtain ⟨q1, q2⟩ := Q.row r m2
    have k1 : (N.weightD x).length * (10 + 60 + 1) ≤ 3 * (10 + 60 + 1) := Nat.mul_le_mul_right _ (by omega)
    have k2 : (N.weightD x).length ≤ 3 := by omega
    exact ⟨w1, p_row_product hh w2 (q1.mono b2) (by show (N.weightD x).length * (10 + 60 + 1) + 10 + 60 < 8900; omega) (by show (N.weightD x).length ≤ 1000; omega), (rowProd_ok w2 (q1.mono b2)).mono (by show 1 + (N.weightD x).length * (10 + 60 + 1) ≤ 300; omega)⟩
  have e := lc_map (ys := N.ringNames.zip pl) (h := h) (g := gT 2 (gsC (gN 2) (gsC (gN 3) gsN))) (e := eCall 2 m_row_product (lC (eCall 2 m_weight_of (lC (eV 0) (lC (eV 2) lN))) (lC (eV 3) lN))) (t := [some (.obj n), some (plP pl), none, none])
    (fun z => .tup [.str z.1, rowP z.2]) (fun z => ratP (rowProd (N.weightD z.1) z.2)) (by omega) (fun z hz acc => by
      obtain ⟨w1, w2, _⟩ := rp z hz (h ++ [.lst acc]) D.app
      exact ⟨[some (.obj n), some (plP pl), some (.str z.1), some (rowP z.2)], [], by simp, by simp [w1, w2], rfl⟩)
  have ro : RowOk 300 ((N.ringNames.zip pl).map fun z => rowProd (N.weightD z.1) z.2) := by
    intro x hx
    obtain ⟨z, hz, rfl⟩ := List.mem_map.mp hx
    exact (rp z hz h D).2.2
  have tt := p_total h ro (by
    rw [List.length_map]
    have : (N.ringNames.zip pl).length * (300 + 1) ≤ 8 * (300 + 1) := Nat.mul_le_mul_right _ lz
    omega) _ (.inl rfl)
  rw [List.map_map] at tt
  simp only [Function.comp_def] at tt
  have c := check_placement D V Q F
  unfold plP at c e s0 ⊢
  simp [c, s0, eLc_at, zipP_map, e, tt]
  rfl
theorem mixture {b' w' : Nat} {pl' : List (List Fr)} {s : Fr} (D : NetAt h n N) (V : NetOk N) (Q : PlOk N b w pl) (F : N.fits pl = true) (Q' : PlOk N b' w' pl') (F' : N.fits pl' = true) (S : FrOk 60 s) (s0 : 0 ≤ s.1) (s1 : belowF (1, 1) s = false) :
    m_mixture [.obj n, plP pl, plP pl', ratP s] h = .ok (plP (mixD N pl pl' s)) h := by
  have c1 := check_placement D V Q F
  have c2 := check_placement D V Q' F'
  have ra := p_is_rate h S
  rw [decide_eq_true s0] at ra
  have one_ok : FrOk 1 (1, 1) := ⟨by decide, by decide, by decide, by decide⟩
  have ib := p_is_below h one_ok S (by omega)
  rw [s1] at ib
  have ls := p_less h one_ok S (by omega)
  have rest := one_ok.less S
  have wi := width_of (pl := pl) D
  have wi' := width_of (pl := pl') D
  have hw : widthD N pl ≤ 12 := by rw [Q.width]; exact Q.hi
  have hw' : widthD N pl' ≤ 12 := by rw [Q'.width]; exact Q'.hi
  have nr := V.nr
  have lz : (pl.zip pl').length ≤ 8 := by rw [List.length_zip, Q.len]; omega
  have mx : (if (widthD N pl' : Int) > (widthD N pl : Int) then (widthD N pl' : Int) else (widthD N pl : Int)) = ((max (widthD N pl) (widthD N pl') : Nat) : Int) := by
    split <;> omega
  obtain ⟨t2, ⟨x1, x2, et⟩, ef⟩ := for_append (S := ⟨(pl.zip pl').map fun z => .tup [rowP z.1, rowP z.2], []⟩) (h0 := h ++ [.lst []]) (h := h) (g := gT 2 (gsC (gN 7) (gsC (gN 8) gsN)))
    (b := sE (eBM "list" mAppend (eV 6) (lC (eCall 2 m_row_plus (lC (eCall 2 m_row_times (lC (eCall 2 m_led_on (lC (eV 7) (lC (eV 4) lN))) (lC (eV 5) lN))) (lC (eCall 2 m_row_times (lC (eCall 2 m_led_on (lC (eV 8) (lC (eV 4) lN))) (lC (eV 3) lN))) lN))) lN)))
    (fun t => ∃ x1 x2, t = [some (.obj n), some (plP pl), some (plP pl'), some (ratP s), some (.int ((max (widthD N pl) (widthD N pl') : Nat) : Int)), some (ratP (lessF (1, 1) s)), some (.obj h.length), x1, x2]) (fun z : List Fr × List Fr => .tup [rowP z.1, rowP z.2])
    (fun z => rowP (rowPlus (rowTimes (ledD z.1 (max (widthD N pl) (widthD N pl'))) (lessF (1, 1) s)) (rowTimes (ledD z.2 (max (widthD N pl) (widthD N pl'))) s))) rfl
    (ys := pl.zip pl') (acc := []) (t := [some (.obj n), some (plP pl), some (plP pl'), some (ratP s), some (.int ((max (widthD N pl) (widthD N pl') : Nat) : Int)), some (ratP (lessF (1, 1) s)), some (.obj h.length), none, none]) ⟨none, none, rfl⟩
    (fun z hz t acc ⟨x1, x2, et⟩ la => by
      subst et
      obtain ⟨r, r'⟩ := z
      obtain ⟨m1, m2⟩ := List.of_mem_zip hz
      obtain ⟨q1, q2⟩ := Q.row r m1
      obtain ⟨q3, q4⟩ := Q'.row r' m2
      have hr : r.length ≤ 12 := by rw [q2]; exact Q.hi
      have hr' : r'.length ≤ 12 := by rw [q4]; exact Q'.hi
      have lm : max (widthD N pl) (widthD N pl') ≤ 12 := by omega
      have a1 := led_on (r := r) (m := max (widthD N pl) (widthD N pl')) (h ++ [.lst acc]) (by omega) (by omega)
      have a2 := led_on (r := r') (m := max (widthD N pl) (widthD N pl')) (h ++ [.lst acc]) (by omega) (by omega)
      have l1 : (ledD r (max (widthD N pl) (widthD N pl'))).length ≤ 12 := by
        unfold ledD
        rw [List.length_append, List.length_replicate]
        omega
      have l2 : (ledD r' (max (widthD N pl) (widthD N pl'))).length ≤ 12 := by
        unfold ledD
        rw [List.length_append, List.length_replicate]
        omega
      have o1 := (led_ok (m := max (widthD N pl) (widthD N pl')) q1 Q.b1).mono Q.b2
      have o2 := (led_ok (m := max (widthD N pl) (widthD N pl')) q3 Q'.b1).mono Q'.b2
      have t1 := p_row_times (h ++ [.lst acc]) o1 rest (by omega) (by omega)
      have t2 := p_row_times (h ++ [.lst acc]) o2 S (by omega) (by omega)
      have pp := p_row_plus (h ++ [.lst acc]) (o1.times rest) (o2.times S) (by omega) (by unfold rowTimes; rw [List.length_map]; omega)
      refine ⟨_, [some (.obj n), some (plP pl), some (plP pl'), some (ratP s), some (.int ((max (widthD N pl) (widthD N pl') : Nat) : Int)), some (ratP (lessF (1, 1) s)), some (.obj h.length), some (rowP r), some (rowP r')], by simp; rfl, ?_, _, _, rfl⟩
      have la2 : acc.length < 16777216 := by omega
      simp only [sE_at, eBM_at, lC_at, lN_at, eCall_at]
      simp [isTy_last, a1, a2, t1, t2, pp, append_last la2]) (by simp only [List.length_nil]; omega)
  refine fn_rt (j := [.lst ((mixD N pl pl' s).map rowP)]) ?_ (by show cleans _ ((mixD N pl pl' s).map rowP) = true; exact cleans_rows _ _)
  unfold b_mixture
  have em : ((pl.zip pl').map fun z => rowP (rowPlus (rowTimes (ledD z.1 (max (widthD N pl) (widthD N pl'))) (lessF (1, 1) s)) (rowTimes (ledD z.2 (max (widthD N pl) (widthD N pl'))) s))) = (mixD N pl pl' s).map rowP := by
    unfold mixD
    rw [List.map_map]
    rfl
  rw [em] at ef
  simp only [List.nil_append] at ef
  have fm : fMax [.int (widthD N pl : Nat), .int (widthD N pl' : Nat)] h = .ok (.int ((max (widthD N pl) (widthD N pl') : Nat) : Int)) h := by
    show Out.ok (P.int (if (widthD N pl' : Int) > (widthD N pl : Int) then (widthD N pl' : Int) else (widthD N pl : Int))) h = _
    rw [mx]
  have zz : srcZp [plP pl, plP pl'] (h ++ [.lst []]) = .ok ⟨(pl.zip pl').map fun z => .tup [rowP z.1, rowP z.2], []⟩ (h ++ [.lst []]) := by
    unfold plP
    rw [src_zip_tup, zipP_map]
  simp only [show P.tup [P.int 1, P.int 1] = ratP (1, 1) from rfl]
  simp [c1, c2, ra, ib, ls, wi, wi', fm, zz, ef, et, tup_last]
  rfl
end
end
end K13


/-! moves, weights -/
namespace K13
open PySem PySem.Spec PyProof.Rows L2 AM
noncomputable section
section
variable {h : AH} {n : Nat} {N : NetR} {b w : Nat} {pl : List (List Fr)}
theorem are_moves (D : NetAt h n N) (V : NetOk N) {ms : List (List Fr)} (lm : ms.length = N.rings.length) (hm : ∀ r ∈ ms, RowOk b r ∧ r.length = N.coords) : m_are_moves [.obj n, plP ms] h = .ok (.bl true) h := by
  refine fn_rt0 ?_
  unfold b_are_moves
  have nr := V.nr
  have c3 := V.c3
  have s0 := prop_at (i := 0) (t := [some (.obj n), some (plP ms), none]) D rfl (p_rings D)
  have it := p_is_tuple (ms.map rowP) (N.ringNames.length : Nat) (N.ringNames.length : Nat) h
  have lr : N.ringNames.length = N.rings.length := by unfold NetR.ringNames; rw [List.length_map]
  rw [List.length_map, lm, lr, decide_eq_true (Int.le_refl _)] at it
  have e : ∀ t, t = [some (.obj n), some (plP ms), none] → lcF ⟨ms.map rowP, []⟩ h (gN 2) tY (eCall 3 m_is_row (lC (eV 2) (lC (eProp "Net" m_Net_coords (eV 0)) (lC (eProp "Net" m_Net_coords (eV 0)) lN)))) t (ms.map rowP) [] h = .ok (.lst (ms.map fun _ => .bl true)) h := by
    rintro t rfl
    refine lc_map _ _ (by omega) fun r hr acc => ?_
    obtain ⟨r1, r2⟩ := hm r hr
    have D2 : NetAt (h ++ [.lst acc]) n N := D.app
    have s0 := prop_at (i := 0) (t := [some (.obj n), some (plP ms), some (rowP r)]) D2 rfl (p_coords D2)
    have ir := p_is_row (h ++ [.lst acc]) r1 (N.coords : Int) (N.coords : Int) (by omega)
    rw [r2, decide_eq_true (Int.le_refl _)] at ir
    exact ⟨_, [], rfl, by simp [s0, ir], rfl⟩
  have e3 := f_all (ms.map fun _ => true) h
  rw [List.map_map] at e3
  simp only [Function.comp_def] at e3
  unfold plP at e s0 ⊢
  simp at e3
  simp [s0, lr, it, eLc_at, e, e3]
theorem mul_row {c : Bool} (k : Nat) (h : AH) (l : k ≤ 1000) : vMulA c (.tup [.tup [.int 0, .int 1]]) (.int (k : Nat)) h = .ok (rowP (List.replicate k (0, 1))) h := by
  have fl : ∀ k : Nat, (List.replicate k [P.tup [.int 0, .int 1]]).flatten = (List.replicate k ((0, 1) : Fr)).map ratP := fun k => by
    induction k with
    | zero => rfl
    | succ k ih =>
      rw [List.replicate_succ, List.flatten_cons, ih, List.replicate_succ, List.map_cons]
      rfl
  unfold rowP
  rw [← fl]
  by_cases k2 : 2 ≤ k
  · have z : vMul (.tup [.tup [.int 0, .int 1]]) (.int (k : Nat)) h = .ok (.tup (List.replicate k [P.tup [.int 0, .int 1]]).flatten) h := by
      show (if [P.tup [.int 0, .int 1]].isEmpty = false ∧ 2 ≤ (k : Int) ∧ (k : Int) ≤ 1000 ∧ [P.tup [.int 0, .int 1]].length ≤ 1000 then Out.ok (P.tup (List.replicate (k : Int).toNat [P.tup [.int 0, .int 1]]).flatten) h else .bad) = _
      rw [if_pos ⟨rfl, by omega, by omega, by decide⟩]
      rfl
    unfold vMulA orF2
    simp only [z]
  · have c : k = 0 ∨ k = 1 := by omega
    rcases c with rfl | rfl
    · rfl
    · rfl
theorem weight_peg (D : NetAt h n N) (V : NetOk N) {x : Str} (hx : x ∈ N.names) (nr : x ∉ N.ringNames) : m_weight_of [.obj n, .str x] h = .ok (rowP (N.weightD x)) h := by
  have c := p_check_name D hx V.few
  have s0 := prop_at (i := 0) (t := [some (.obj n), some (.str x)]) D rfl (p_rings D)
  have s1 := prop_at (i := 0) (t := [some (.obj n), some (.str x)]) D rfl (p_coords D)
  have c3 := V.c3
  have wd : N.weightD x = List.replicate N.coords (0, 1) := by
    unfold NetR.weightD
    unfold NetR.ringNames at nr
    rw [lookup_none nr]
  rw [wd]
  refine fn_rt0 ?_
  unfold b_weight_of
  simp [c, s0, cmp_in_strs, nr, s1, mul_row N.coords h (by omega)]
theorem moved (D : NetAt h n N) (V : NetOk N) {ms : List (List Fr)} {s : Fr} (lm : ms.length = N.rings.length) (hm : ∀ r ∈ ms, RowOk 60 r ∧ r.length = N.coords) (S : FrOk 60 s) : m_moved [.obj n, plP ms, ratP s] h = .ok (plP (movedD N ms s)) h := by
  have nr := V.nr
  have c3 := V.c3
  have lp : N.picD.length = N.rings.length := by unfold NetR.picD NetR.ringNames; rw [List.length_map, List.length_map]
  have lz : (N.picD.zip ms).length ≤ 8 := by rw [List.length_zip]; omega
  refine fn_rt0 ?_
  unfold b_moved
  have e := lc_map (ys := N.picD.zip ms) (h := h) (g := gT 2 (gsC (gN 3) (gsC (gN 4) gsN))) (e := eCall 2 m_row_plus (lC (eV 3) (lC (eCall 2 m_row_times (lC (eV 4) (lC (eV 2) lN))) lN))) (t := [some (.obj n), some (plP ms), some (ratP s), none, none])
    (fun z => .tup [rowP z.1, rowP z.2]) (fun z => rowP (rowPlus z.1 (rowTimes z.2 s))) (by omega) (fun z hz acc => by
      obtain ⟨p, r⟩ := z
      obtain ⟨m1, m2⟩ := List.of_mem_zip hz
      obtain ⟨x, hx, ex⟩ := List.mem_map.mp m1
      obtain ⟨_, o1, l1⟩ := V.place (x := x) (List.mem_append_right _ hx)
      rw [ex] at o1 l1
      obtain ⟨o2, l2⟩ := hm r m2
      have t1 := p_row_times (h ++ [.lst acc]) o2 S (by omega) (by omega)
      have t2 := p_row_plus (h ++ [.lst acc]) o1 (o2.times S) (by omega) (by omega)
      exact ⟨[some (.obj n), some (plP ms), some (ratP s), some (rowP p), some (rowP r)], [], by simp, by simp [t1, t2], clean_row _ _⟩)
  have am := are_moves D V lm hm
  have ir := p_is_ratio h S
  have pc := picture D V
  unfold plP at am e pc ⊢
  simp [am, ir, pc, eLc_at, zipP_map, e]
  unfold movedD
  rw [List.map_map]
  rfl
end
end
end K13


/-! drafts that grow -/
namespace K13
open PySem PySem.Spec PyProof.Rows L2 AM
noncomputable section
def nameOk (x : Str) : Bool := decide (1 ≤ (x.length : Int)) && decide ((x.length : Int) ≤ 6) && (x.cps.toList.map fun c => inStr ⟨#[c]⟩ "abcdefghijklmnopqrstuvwxyz").all id
theorem p_is_name {x : Str} (h : AH) (o : nameOk x = true) : m_is_name [.str x] h = .ok (.bl true) h := by
  unfold nameOk at o
  simp only [Bool.and_eq_true] at o
  obtain ⟨⟨o1, o2⟩, o3⟩ := o
  have l : x.length ≤ 16777216 := by have := of_decide_eq_true o2; omega
  have e : ∀ t, t = [some (.str x), none] → lcF ⟨x.cps.toList.map fun c => P.str ⟨#[c]⟩, []⟩ h (gN 1) tY (eCmp inP (eV 1) (eC (.str "abcdefghijklmnopqrstuvwxyz"))) t (x.cps.toList.map fun c => P.str ⟨#[c]⟩) [] h = .ok (.lst (x.cps.toList.map fun c => .bl (inStr ⟨#[c]⟩ "abcdefghijklmnopqrstuvwxyz"))) h := by
    rintro t rfl
    refine lc_map0 _ _ l fun c hc hh => ⟨_, rfl, by simp, rfl⟩
  have e3 := f_all (x.cps.toList.map fun c => inStr ⟨#[c]⟩ "abcdefghijklmnopqrstuvwxyz") h
  rw [List.map_map] at e3
  simp only [Function.comp_def] at e3
  refine fn_rt0 ?_
  unfold b_is_name
  simp only [sR_at, eAn_at, eIsi_at, eCh_at, tCh_at, eCB_at, lC_at, lN_at, eC_at, eLc_at, iSeq_at]
  simp [tyB, len_str l, eLc_at, e, e3, o1, of_decide_eq_true o1, of_decide_eq_true o2]
  simpa using o3
/-- drafts under way -/
structure DrS (h : AH) (d p r c : Nat) (k : Nat) (pegs : List (Str × List Fr)) (rings : List (Str × List Fr × List Fr)) (cords : List (Str × Str)) : Prop where
  ins : h[d]? = some (.ins "Drafts" [some (.int k), some (.obj c), some (.obj p), some (.obj r)])
  hp : h[p]? = some (.dct (pegK pegs))
  hr : h[r]? = some (.dct (ringK rings))
  hc : h[c]? = some (.lst (cords.map pairP))
  ne : p ≠ r
theorem DrS.app {h j : AH} {d p r c k : Nat} {pegs rings cords} (D : DrS h d p r c k pegs rings cords) : DrS (h ++ j) d p r c k pegs rings cords := ⟨get_app D.ins, get_app D.hp, get_app D.hr, get_app D.hc, D.ne⟩
theorem get_set {h : AH} {n m : Nat} {o a b : O} (e : h[n]? = some a) (f : h[m]? = some b) (ne : m = n → False) : (h.set m o)[n]? = some a := by
  rw [List.getElem?_set_ne ne]
  exact e
theorem set_get {h : AH} {m : Nat} {o b : O} (f : h[m]? = some b) : (h.set m o)[m]? = some o := by
  rw [List.getElem?_set_self (List.getElem?_eq_some_iff.mp f).1]
section
variable {h : AH} {d p r c k : Nat} {pegs : List (Str × List Fr)} {rings : List (Str × List Fr × List Fr)} {cords : List (Str × Str)}
theorem DrS.withPegs (D : DrS h d p r c k pegs rings cords) (pegs' : List (Str × List Fr)) : DrS (h.set p (.dct (pegK pegs'))) d p r c k pegs' rings cords :=
  ⟨get_set D.ins D.hp (fun e => by subst e; have z := D.ins.symm.trans D.hp; cases z), set_get D.hp, get_set D.hr D.hp D.ne, get_set D.hc D.hp (fun e => by subst e; have z := D.hc.symm.trans D.hp; cases z), D.ne⟩
theorem DrS.withRings (D : DrS h d p r c k pegs rings cords) (rings' : List (Str × List Fr × List Fr)) : DrS (h.set r (.dct (ringK rings'))) d p r c k pegs rings' cords :=
  ⟨get_set D.ins D.hr (fun e => by subst e; have z := D.ins.symm.trans D.hr; cases z), get_set D.hp D.hr (Ne.symm D.ne), set_get D.hr, get_set D.hc D.hr (fun e => by subst e; have z := D.hc.symm.trans D.hr; cases z), D.ne⟩
theorem DrS.withCords (D : DrS h d p r c k pegs rings cords) (cords' : List (Str × Str)) : DrS (h.set c (.lst (cords'.map pairP))) d p r c k pegs rings cords' :=
  ⟨get_set D.ins D.hc (fun e => by subst e; have z := D.ins.symm.trans D.hc; cases z), get_set D.hp D.hc (fun e => by subst e; have z := D.hp.symm.trans D.hc; cases z), get_set D.hr D.hc (fun e => by subst e; have z := D.hr.symm.trans D.hc; cases z), set_get D.hc, D.ne⟩
theorem DrS.dr (D : DrS h d p r c k pegs rings cords) (t : Str) : DrAt h d ⟨t, k, pegs, rings, cords⟩ := ⟨p, r, _, D.ins, rfl, rfl, rfl, D.hp, D.hr⟩
theorem get_pegs (x : Str) (l : List (Str × List Fr)) : getP (pegK l) (.inr x) = (l.lookup x).map rowP := getP_map rowP x l
theorem get_rings (x : Str) (l : List (Str × List Fr × List Fr)) : getP (ringK l) (.inr x) = (l.lookup x).map fun z => .tup [rowP z.1, rowP z.2] := getP_map (fun z : List Fr × List Fr => P.tup [rowP z.1, rowP z.2]) x l
theorem p_is_new (D : DrS h d p r c k pegs rings cords) {x : Str} (o : nameOk x = true) (np : x ∉ pegs.map (·.1)) (nr : x ∉ rings.map (·.1)) : m_Drafts_is_new [.obj d, .str x] h = .ok (.bl true) h := by
  refine fn_rt0 ?_
  unfold b_Drafts_is_new
  have s2 : eSlot "Drafts" 2 (eV 0) [some (.obj d), some (.str x)] h = .ok (.obj p) h := eSlot_of (eV_some rfl) D.ins rfl
  have s3 : eSlot "Drafts" 3 (eV 0) [some (.obj d), some (.str x)] h = .ok (.obj r) h := eSlot_of (eV_some rfl) D.ins rfl
  have g2 : getP (pegK pegs) (.inr x) = none := by rw [get_pegs, lookup_none np]; rfl
  have g3 : getP (ringK rings) (.inr x) = none := by rw [get_rings, lookup_none nr]; rfl
  have i2 := notin_of (cmp_in_dct (x := x) D.hp)
  have i3 := notin_of (cmp_in_dct (x := x) D.hr)
  rw [g2] at i2
  rw [g3] at i3
  simp [p_is_name h o, s2, s3, i2, i3]
theorem clean_pegs (n : Nat) (l : List (Str × List Fr)) : cleanO n (.dct (pegK l)) = true := by
  show cleans n ((pegK l).map (·.2)) = true
  refine cleans_all fun q hq => ?_
  obtain ⟨z, hz, rfl⟩ := List.mem_map.mp hq
  obtain ⟨w, _, rfl⟩ := List.mem_map.mp hz
  exact clean_row _ _
theorem clean_rings (n : Nat) (l : List (Str × List Fr × List Fr)) : cleanO n (.dct (ringK l)) = true := by
  show cleans n ((ringK l).map (·.2)) = true
  refine cleans_all fun q hq => ?_
  obtain ⟨z, hz, rfl⟩ := List.mem_map.mp hq
  obtain ⟨w, _, rfl⟩ := List.mem_map.mp hz
  show (clean n (rowP w.2.1) && (clean n (rowP w.2.2) && true)) = true
  rw [clean_row, clean_row]
  rfl
theorem clean_cords (n : Nat) (l : List (Str × Str)) : cleanO n (.lst (l.map pairP)) = true := by
  show cleans n (l.map pairP) = true
  refine cleans_all fun q hq => ?_
  obtain ⟨z, hz, rfl⟩ := List.mem_map.mp hq
  rfl
theorem p_put_peg (D : DrS h d p r c k pegs [] []) {x : Str} {ws : List Str} {xs : List Fr} (o : nameOk x = true) (np : x ∉ pegs.map (·.1)) (hw : WordsAre ws xs) (hx : ∀ x ∈ xs, NumOk x) (lw : ws.length = k) (l3 : k ≤ 3) (l16 : pegs.length < 16) :
    m_Drafts_put_peg [.obj d, .lst (.str "peg" :: .str x :: ws.map P.str)] h = .ok (.bl true) (h.set p (.dct (pegK (pegs ++ [(x, xs)])))) := by
  refine fn_set (j := [.dct []]) ?_ (clean_pegs _ _) rfl
  unfold b_Drafts_put_peg
  have D1 : DrS (h ++ [.dct []]) d p r c k pegs [] [] := D.app
  have cut : cutP (P.str "peg" :: .str x :: ws.map P.str) (some 2) none = ws.map P.str := by
    have z := cutP_from (P.str "peg" :: .str x :: ws.map P.str) 2
    exact z
  have s0 : ∀ a b, eSlot "Drafts" 0 (eV 0) [some (.obj d), a, b] h = .ok (.int k) h := fun a b => eSlot_of (eV_some rfl) D.ins rfl
  have s3 : ∀ a b, eSlot "Drafts" 3 (eV 0) [some (.obj d), a, b] h = .ok (.obj r) h := fun a b => eSlot_of (eV_some rfl) D.ins rfl
  have s1 : ∀ a b, eSlot "Drafts" 1 (eV 0) [some (.obj d), a, b] (h ++ [.dct []]) = .ok (.obj c) (h ++ [.dct []]) := fun a b => eSlot_of (eV_some rfl) D1.ins rfl
  have s2 : ∀ a b, eSlot "Drafts" 2 (eV 0) [some (.obj d), a, b] (h ++ [.dct []]) = .ok (.obj p) (h ++ [.dct []]) := fun a b => eSlot_of (eV_some rfl) D1.ins rfl
  have ni := p_numbers_in h hw hx (by omega)
  rw [lw] at ni
  have mt : ∀ b, eMeth "Drafts" 2 m_Drafts_is_new (eV 0) (lC (eB itemP (eV 1) (eC (.int 1))) lN) [some (.obj d), some (.lst (.str "peg" :: .str x :: ws.map P.str)), b] h = .ok (.bl true) h := fun b =>
    (eMeth_of (n := d) (xs := [.str x]) (h1 := h) (h2 := h) (eV_some rfl) D.ins (by simp) rfl).trans (p_is_new D o np (by simp))
  have c0 : cmpV (eqD0 true) (.obj r) (.obj h.length) (h ++ [.dct []]) = .ok false (h ++ [.dct []]) := by
    rw [cmp_D0 D1.hr (by simp)]
    rfl
  have c1 := cmp_L0 D1.hc
  have g2 : getP (pegK pegs) (.inr x) = none := by rw [get_pegs, lookup_none np]; rfl
  have lp : (pegK pegs).length = pegs.length := by unfold pegK; rw [List.length_map]
  have st := put_dct (p := rowP xs) D1.hp g2 (by omega)
  have pk : pegK pegs ++ [(.inr x, rowP xs)] = pegK (pegs ++ [(x, xs)]) := by unfold pegK; rw [List.map_append]; rfl
  rw [pk, List.set_append_left _ _ (List.getElem?_eq_some_iff.mp D.hp).1] at st
  have D2 : DrS (h.set p (.dct (pegK (pegs ++ [(x, xs)]))) ++ [.dct []]) d p r c k (pegs ++ [(x, xs)]) [] [] := (D.withPegs _).app
  have s4 : ∀ a b, eSlot "Drafts" 2 (eV 0) [some (.obj d), a, b] (h.set p (.dct (pegK (pegs ++ [(x, xs)]))) ++ [.dct []]) = .ok (.obj p) (h.set p (.dct (pegK (pegs ++ [(x, xs)]))) ++ [.dct []]) := fun a b => eSlot_of (eV_some rfl) D2.ins rfl
  have ln := len_dct D2.hp
  have lq : (pegK (pegs ++ [(x, xs)])).length = pegs.length + 1 := by unfold pegK; rw [List.length_map, List.length_append]; rfl
  rw [lq] at ln
  have lf : ((pegs.length : Int) + 1 ≤ 16) := by omega
  simp [s0, s3, s1, s2, s4, cut, ni, rowP] 
  simp [rowP] at st
  simp [mt, s3, c0, c1, s1, s2, st, s4, ln, lf]
end
end
end K13


/-! drafts that grow, on -/
namespace K13
open PySem PySem.Spec PyProof.Rows L2 AM
noncomputable section
theorem eqv_rat (x y : Fr) : PyData.eqv (ratD x) (ratD y) = decide (x = y) := by
  obtain ⟨a, b⟩ := x
  obtain ⟨c, d⟩ := y
  show ((a == c) && ((b == d) && true)) = _
  by_cases e : a = c
  · by_cases f : b = d
    · subst e f
      simp
    · simp [e, f]
  · simp [e]
theorem eqv_map {α : Type} [DecidableEq α] (f : α → PyData) (e : ∀ x y, PyData.eqv (f x) (f y) = decide (x = y)) : ∀ (xs ys : List α), PyData.eqvAll (xs.map f) (ys.map f) = decide (xs = ys)
  | [], [] => rfl
  | [], y :: ys => by simp [PyData.eqvAll]
  | x :: xs, [] => by simp [PyData.eqvAll]
  | x :: xs, y :: ys => by
    rw [List.map_cons, List.map_cons]
    unfold PyData.eqvAll
    rw [e, eqv_map f e xs ys]
    by_cases a : x = y
    · by_cases b : xs = ys
      · simp [a, b]
      · simp [b]
    · simp [a]
theorem eqv_row (r s : List Fr) : PyData.eqv (rowD r) (rowD s) = decide (r = s) := by
  unfold rowD PyData.eqv
  exact eqv_map ratD eqv_rat r s
theorem cmp_rows (r s : List Fr) (h : AH) : cmpV eqP (rowP r) (rowP s) h = .ok (decide (r = s)) h := by
  rw [eq_dat (dat_row _ r) (dat_row _ s) (shaped_row r) (shaped_row s) (fun x z => by cases z), eqv_row]
def pairD (c : Str × Str) : PyData := .tuple [.str c.1, .str c.2]
theorem eqv_pair (x y : Str × Str) : PyData.eqv (pairD x) (pairD y) = decide (x = y) := pair_eqv x.1 x.2 y.1 y.2
def strsOk (c : Str × Str) : Bool := PyData.strOk c.1 && PyData.strOk c.2
theorem lay_pair (c : Str × Str) (o : strsOk c = true) : (pairD c).canLay0 = true := by
  unfold strsOk at o
  rw [Bool.and_eq_true] at o
  unfold pairD PyData.canLay0
  simp [PyData.canLayAll0, PyData.canLay0, o]
theorem lay_pairs : ∀ (cs : List (Str × Str)), (∀ c ∈ cs, strsOk c = true) → PyData.canLayAll0 (cs.map pairD) = true
  | [], _ => rfl
  | c :: cs, o => by
    rw [List.map_cons]
    unfold PyData.canLayAll0
    rw [lay_pair c (o c (List.mem_cons_self ..)), lay_pairs cs fun x hx => o x (List.mem_cons_of_mem _ hx)]
    rfl
theorem depth_pair (c : Str × Str) : (pairD c).depth ≤ 1 := by
  unfold pairD PyData.depth
  simp [PyData.depthAll, PyData.depth]
theorem cmp_in_pairs {h : AH} {n : Nat} {x y : Str} {cs : List (Str × Str)} (o : strsOk (x, y) = true) (os : ∀ c ∈ cs, strsOk c = true) (e : h[n]? = some (.lst (cs.map pairP))) : cmpV inP (.tup [.str x, .str y]) (.obj n) h = .ok (decide ((x, y) ∈ cs)) h := by
  have d1 : dat h (.tup [.str x, .str y]) = some (pairD (x, y)) := rfl
  have d2 : dat h (.obj n) = some (.list (cs.map pairD)) := by
    show (match h[n]? with
      | some (.lst xs) => (datasP (resolve h 3) xs).map PyData.list
      | _ => none) = _
    rw [e]
    show (datasP (resolve h 3) (cs.map pairP)).map PyData.list = _
    rw [datas_map pairP pairD (fun _ => rfl)]
    rfl
  have s1 : SeqAt.shaped (pairD (x, y)) = true := by
    unfold SeqAt.shaped
    rw [lay_pair _ o, decide_eq_true (by have := depth_pair (x, y); omega)]
    rfl
  have s2 : SeqAt.shaped (.list (cs.map pairD)) = true := by
    unfold SeqAt.shaped
    have l : (PyData.list (cs.map pairD)).canLay0 = true := by
      unfold PyData.canLay0
      exact lay_pairs cs os
    have dp : (PyData.list (cs.map pairD)).depth ≤ 64 := by
      unfold PyData.depth
      have := depth_map pairD 1 depth_pair cs
      omega
    rw [l, decide_eq_true dp]
    rfl
  refine cmpV_some ?_
  show (match h[n]? with
    | some (.dct kvs) => (keyOf (.tup [.str x, .str y])).map fun k => (getP kvs k).isSome
    | _ => (match dat h (.tup [.str x, .str y]), dat h (.obj n) with
      | some d, some (.list ds) => if SeqAt.shaped d = true ∧ SeqAt.shaped (.list ds) = true then some (ds.any fun z => PyData.eqv z d) else none
      | _, _ => none)) = _
  rw [e]
  dsimp only
  rw [d1, d2]
  dsimp only
  rw [if_pos ⟨s1, s2⟩, List.any_map]
  congr 1
  induction cs with
  | nil => rfl
  | cons c cs ih =>
    rw [List.any_cons]
    have z : ∀ l : List (Str × Str), (l.any ((fun z => PyData.eqv z (pairD (x, y))) ∘ pairD)) = decide ((x, y) ∈ l) := by
      intro l
      induction l with
      | nil => rfl
      | cons b l ih =>
        rw [List.any_cons, ih]
        show (PyData.eqv (pairD b) (pairD (x, y)) || _) = _
        rw [eqv_pair]
        by_cases a : b = (x, y)
        · simp [a]
        · have a2 : ¬ ((x, y) = b) := fun w => a w.symm
          simp [a, a2]
    exact z (c :: cs)
section
variable {h : AH} {d p r c k : Nat} {pegs : List (Str × List Fr)} {rings : List (Str × List Fr × List Fr)} {cords : List (Str × Str)}
theorem p_put_ring (D : DrS h d p r c k pegs rings []) {x : Str} {ws : List Str} {xs ys : List Fr} (o : nameOk x = true) (np : x ∉ pegs.map (·.1)) (nr : x ∉ rings.map (·.1)) (ne : pegs ≠ []) (hw : WordsAre ws (xs ++ ys)) (hx : ∀ x ∈ xs ++ ys, NumOk x) (lx : xs.length = k) (ly : ys.length = k) (l3 : k ≤ 3) (l8 : rings.length < 8) :
    m_Drafts_put_ring [.obj d, .lst (.str "ring" :: .str x :: ws.map P.str)] h = .ok (.bl true) (h.set r (.dct (ringK (rings ++ [(x, (xs, ys))])))) := by
  refine fn_set (j := [.dct []]) ?_ (clean_rings _ _) rfl
  unfold b_Drafts_put_ring
  have lw : ws.length = 2 * k := by rw [hw.len, List.length_append]; omega
  have D1 : DrS (h ++ [.dct []]) d p r c k pegs rings [] := D.app
  have cut : cutP (P.str "ring" :: .str x :: ws.map P.str) (some 2) none = ws.map P.str := by
    have z := cutP_from (P.str "ring" :: .str x :: ws.map P.str) 2
    exact z
  have s0 : ∀ a b, eSlot "Drafts" 0 (eV 0) [some (.obj d), a, b] h = .ok (.int k) h := fun a b => eSlot_of (eV_some rfl) D.ins rfl
  have s0' : ∀ a b, eSlot "Drafts" 0 (eV 0) [some (.obj d), a, b] (h ++ [.dct []]) = .ok (.int k) (h ++ [.dct []]) := fun a b => eSlot_of (eV_some rfl) D1.ins rfl
  have s2 : ∀ a b, eSlot "Drafts" 2 (eV 0) [some (.obj d), a, b] h = .ok (.obj p) h := fun a b => eSlot_of (eV_some rfl) D.ins rfl
  have s1 : ∀ a b, eSlot "Drafts" 1 (eV 0) [some (.obj d), a, b] (h ++ [.dct []]) = .ok (.obj c) (h ++ [.dct []]) := fun a b => eSlot_of (eV_some rfl) D1.ins rfl
  have s3 : ∀ a b, eSlot "Drafts" 3 (eV 0) [some (.obj d), a, b] (h ++ [.dct []]) = .ok (.obj r) (h ++ [.dct []]) := fun a b => eSlot_of (eV_some rfl) D1.ins rfl
  have mu : vMul (.int 2) (.int k) h = .ok (.int (2 * (k : Int))) h := by
    have z := v_mul (i := 2) (j := k) h (by
      have q : k = 0 ∨ k = 1 ∨ k = 2 ∨ k = 3 := by omega
      rcases q with e | e | e | e <;> subst e <;> decide)
    rw [z]
  have ni := p_numbers_in h hw hx (by omega)
  rw [lw, show ((2 * k : Nat) : Int) = 2 * (k : Int) by omega] at ni
  have mt : ∀ b, eMeth "Drafts" 2 m_Drafts_is_new (eV 0) (lC (eB itemP (eV 1) (eC (.int 1))) lN) [some (.obj d), some (.lst (.str "ring" :: .str x :: ws.map P.str)), b] h = .ok (.bl true) h := fun b =>
    (eMeth_of (n := d) (xs := [.str x]) (h1 := h) (h2 := h) (eV_some rfl) D.ins (by simp) rfl).trans (p_is_new D o np nr)
  have pe : (pegK pegs).isEmpty = false := by
    cases pegs with
    | nil => exact absurd rfl ne
    | cons _ _ => rfl
  have c0 : cmpV (eqD0 false) (.obj p) (.obj h.length) (h ++ [.dct []]) = .ok false (h ++ [.dct []]) := by
    rw [cmp_D0 D1.hp (by simp), pe]
    rfl
  have c1 := cmp_L0 D1.hc
  have g2 : getP (ringK rings) (.inr x) = none := by rw [get_rings, lookup_none nr]; rfl
  have lp : (ringK rings).length = rings.length := by unfold ringK; rw [List.length_map]
  have st := put_dct (p := .tup [rowP xs, rowP ys]) D1.hr g2 (by omega)
  have pk : ringK rings ++ [(.inr x, .tup [rowP xs, rowP ys])] = ringK (rings ++ [(x, (xs, ys))]) := by unfold ringK; rw [List.map_append]; rfl
  rw [pk, List.set_append_left _ _ (List.getElem?_eq_some_iff.mp D.hr).1] at st
  have D2 : DrS (h.set r (.dct (ringK (rings ++ [(x, (xs, ys))]))) ++ [.dct []]) d p r c k pegs (rings ++ [(x, (xs, ys))]) [] := (D.withRings _).app
  have s4 : ∀ a b, eSlot "Drafts" 3 (eV 0) [some (.obj d), a, b] (h.set r (.dct (ringK (rings ++ [(x, (xs, ys))]))) ++ [.dct []]) = .ok (.obj r) (h.set r (.dct (ringK (rings ++ [(x, (xs, ys))]))) ++ [.dct []]) := fun a b => eSlot_of (eV_some rfl) D2.ins rfl
  have ln := len_dct D2.hr
  have lq : (ringK (rings ++ [(x, (xs, ys))])).length = rings.length + 1 := by unfold ringK; rw [List.length_map, List.length_append]; rfl
  rw [lq] at ln
  have lf : ((rings.length : Int) + 1 ≤ 8) := by omega
  have k1 : cutP ((xs ++ ys).map ratP) none (some (k : Int)) = xs.map ratP := by
    rw [cutP_upto, ← List.map_take, ← lx, List.take_left]
  have k2 : cutP ((xs ++ ys).map ratP) (some (k : Int)) none = ys.map ratP := by
    rw [cutP_from, ← List.map_drop, ← lx, List.drop_left]
  simp only [List.map_append] at k1 k2
  simp only [rowP] at st ni
  simp [s0, s2, mu, cut, ni]
  simp [mt, s0', s1, s2, s3, c0, c1, k1, k2, st, s4, ln, lf]
theorem p_put_cord (D : DrS h d p r c k pegs rings cords) {x y : Str} {rx ry : List Fr} (hx : NetR.place ⟨"", k, pegs, rings, cords⟩ x = some rx) (hy : NetR.place ⟨"", k, pegs, rings, cords⟩ y = some ry) (ne : rx ≠ ry) (hr : x ∈ rings.map (·.1) ∨ y ∈ rings.map (·.1)) (n1 : (x, y) ∉ cords) (n2 : (y, x) ∉ cords) (l20 : cords.length < 20) (so : strsOk (x, y) = true) (sos : ∀ c ∈ cords, strsOk c = true) :
    m_Drafts_put_cord [.obj d, .lst [.str "cord", .str x, .str y]] h = .ok (.bl true) (h.set c (.lst ((cords ++ [(x, y)]).map pairP))) := by
  refine fn_set (j := []) ?_ (clean_cords _ _) rfl
  unfold b_Drafts_put_cord
  have cut : cutP [P.str "cord", .str x, .str y] (some 1) none = [.str x, .str y] := rfl
  have loc : ∀ z, (∃ rz, NetR.place ⟨"", k, pegs, rings, cords⟩ z = some rz) → ((getP (pegK pegs) (.inr z)).isSome || (getP (ringK rings) (.inr z)).isSome) = true := by
    rintro z ⟨rz, e⟩
    rw [get_pegs, get_rings]
    unfold NetR.place at e
    dsimp only at e
    cases q : pegs.lookup z with
    | some a => rfl
    | none =>
      rw [q] at e
      cases q2 : rings.lookup z with
      | some a => rfl
      | none => rw [q2] at e; cases e
  have isr : ∀ z, (getP (ringK rings) (.inr z)).isSome = decide (z ∈ rings.map (·.1)) := by
    intro z
    rw [get_rings]
    by_cases m : z ∈ rings.map (·.1)
    · obtain ⟨a, e, _⟩ := lookup_some m
      rw [e, decide_eq_true m]
      rfl
    · rw [lookup_none m, decide_eq_false m]
      rfl
  have t0 : ∀ z acc, eSlot "Drafts" 2 (eV 0) [some (.obj d), some (.lst [.str "cord", .str x, .str y]), some (.tup [.str x, .str y]), some (.str z)] (h ++ [.lst acc]) = .ok (.obj p) (h ++ [.lst acc]) := fun z acc => eSlot_of (eV_some rfl) (D.app (j := [.lst acc])).ins rfl
  have t1 : ∀ z acc, eSlot "Drafts" 3 (eV 0) [some (.obj d), some (.lst [.str "cord", .str x, .str y]), some (.tup [.str x, .str y]), some (.str z)] (h ++ [.lst acc]) = .ok (.obj r) (h ++ [.lst acc]) := fun z acc => eSlot_of (eV_some rfl) (D.app (j := [.lst acc])).ins rfl
  have e1 : lcF ⟨[x, y].map P.str, []⟩ h (gN 3) tY (eOr (eCmp inP (eV 3) (eSlot "Drafts" 2 (eV 0))) (eCmp inP (eV 3) (eSlot "Drafts" 3 (eV 0)))) [some (.obj d), some (.lst [.str "cord", .str x, .str y]), some (.tup [.str x, .str y]), none] ([x, y].map P.str) [] h = .ok (.lst ([x, y].map fun _ => .bl true)) h := by
    refine lc_map _ _ (by simp) fun z hz acc => ?_
    have hz2 : ∃ rz, NetR.place ⟨"", k, pegs, rings, cords⟩ z = some rz := by
      rcases List.mem_cons.mp hz with rfl | hz
      · exact ⟨_, hx⟩
      · rw [List.mem_singleton.mp hz]
        exact ⟨_, hy⟩
    have o := loc z hz2
    have i1 := cmp_in_dct (x := z) (D.app (j := [.lst acc])).hp
    have i2 := cmp_in_dct (x := z) (D.app (j := [.lst acc])).hr
    refine ⟨[some (.obj d), some (.lst [.str "cord", .str x, .str y]), some (.tup [.str x, .str y]), some (.str z)], [], rfl, ?_, rfl⟩
    cases q : (getP (pegK pegs) (.inr z)).isSome with
    | true =>
      rw [q] at i1
      simp [t0, i1]
    | false =>
      rw [q] at i1 o
      simp only [Bool.false_or] at o
      rw [o] at i2
      simp [t0, t1, i1, i2]
  have e2 : lcF ⟨[x, y].map P.str, []⟩ h (gN 3) tY (eCmp inP (eV 3) (eSlot "Drafts" 3 (eV 0))) [some (.obj d), some (.lst [.str "cord", .str x, .str y]), some (.tup [.str x, .str y]), none] ([x, y].map P.str) [] h = .ok (.lst ([x, y].map fun z => .bl (decide (z ∈ rings.map (·.1))))) h := by
    refine lc_map _ _ (by simp) fun z hz acc => ?_
    have i2 := cmp_in_dct (x := z) (D.app (j := [.lst acc])).hr
    rw [isr] at i2
    exact ⟨[some (.obj d), some (.lst [.str "cord", .str x, .str y]), some (.tup [.str x, .str y]), some (.str z)], [], rfl, by simp [t1, i2], rfl⟩
  have a1 := f_all ([x, y].map fun _ => true) h
  have a2 := f_any ([x, y].map fun z => decide (z ∈ rings.map (·.1))) h
  have or1 : ([x, y].map fun z => decide (z ∈ rings.map (·.1))).any id = true := by
    rcases hr with e | e
    · simp only [List.map_cons, List.any_cons, id, decide_eq_true e, Bool.true_or]
    · simp only [List.map_cons, List.any_cons, id, decide_eq_true e, Bool.true_or, Bool.or_true]
  rw [or1] at a2
  have pl : ∀ (i : Int) (z : Str) (rz : List Fr), atI [P.str x, .str y] i = some (.str z) → NetR.place ⟨"", k, pegs, rings, cords⟩ z = some rz → eMeth "Drafts" 2 m_Drafts_place (eV 0) (lC (eB itemP (eV 2) (eC (.int i))) lN) [some (.obj d), some (.lst [.str "cord", .str x, .str y]), some (.tup [.str x, .str y]), none] h = .ok (rowP rz) h := fun i z rz ez e =>
    (eMeth_of (n := d) (xs := [.str z]) (h1 := h) (h2 := h) (eV_some rfl) D.ins (by simp [ez]) rfl).trans (p_place (D.dr "") e)
  have p1 := pl 0 x rx (by simp) hx
  have p2 := pl 1 y ry (by simp) hy
  have s1 : ∀ hh, DrS hh d p r c k pegs rings cords → eSlot "Drafts" 1 (eV 0) [some (.obj d), some (.lst [.str "cord", .str x, .str y]), some (.tup [.str x, .str y]), none] hh = .ok (.obj c) hh := fun hh E => eSlot_of (eV_some rfl) E.ins rfl
  have so2 : strsOk (y, x) = true := by
    unfold strsOk at so ⊢
    rw [Bool.and_comm]
    exact so
  have i1 := cmp_in_pairs (x := x) (y := y) so sos D.hc
  have i2 := cmp_in_pairs (x := y) (y := x) so2 sos D.hc
  rw [decide_eq_false n1] at i1
  rw [decide_eq_false n2] at i2
  have rv : revP (.tup [.str x, .str y]) h = .ok (.tup [.str y, .str x]) h := rfl
  have ap := append_at (y := pairP (x, y)) D.hc (by rw [List.length_map]; omega)
  have em : cords.map pairP ++ [pairP (x, y)] = (cords ++ [(x, y)]).map pairP := by rw [List.map_append]; rfl
  rw [em] at ap
  have D2 := D.withCords (cords ++ [(x, y)])
  have s2 : eSlot "Drafts" 1 (eV 0) [some (.obj d), some (.lst [.str "cord", .str x, .str y]), some (.tup [.str x, .str y]), none] (h.set c (.lst ((cords ++ [(x, y)]).map pairP))) = .ok (.obj c) (h.set c (.lst ((cords ++ [(x, y)]).map pairP))) := eSlot_of (eV_some rfl) D2.ins rfl
  have ln := len_lst D2.hc
  rw [List.length_map, List.length_append] at ln
  have lf : ((cords.length : Int) + 1 ≤ 20) := by omega
  have it := isTy_at D.hc
  have cr := cmp_rows rx ry h
  rw [decide_eq_false ne] at cr
  simp only [List.map_cons, List.map_nil] at e1 e2 a1 a2
  have pp : pairP (x, y) = .tup [.str x, .str y] := rfl
  rw [pp] at ap
  simp only [sQ_at, sA_at, eCB_at, lC_at, lN_at, eSlice_at]
  simp [cut]
  simp only [eLc_at]
  simp [e1, a1, p1, p2, cr, eLc_at, e2]
  simp at a1 a2
  simp [e1, a1, p1, p2, cr, eLc_at, e2, a2, s1 h D, i1, rv, i2, it]
  simp only [List.map_append, List.map_cons, List.map_nil] at s2 ln
  simp [ap]
  simp [s2, ln, lf]
theorem p_put_peg_put (D : DrS h d p r c k pegs rings cords) {ws : List P} {q : P} {h2 : AH} {z : Str} (e : m_Drafts_put_peg [.obj d, .lst (.str "peg" :: .str z :: ws)] h = .ok q h2) (l : h2.length = h.length) : m_Drafts_put [.obj d, .lst (.str "peg" :: .str z :: ws)] h = .ok q h2 := by
  have mt : eMeth "Drafts" 2 m_Drafts_put_peg (eV 0) (lC (eV 1) lN) [some (.obj d), some (.lst (.str "peg" :: .str z :: ws))] h = .ok q h2 :=
    (eMeth_of (n := d) (xs := [.lst (.str "peg" :: .str z :: ws)]) (h1 := h) (h2 := h) (eV_some rfl) D.ins (by simp) rfl).trans e
  have b : b_Drafts_put ([P.obj d, .lst (.str "peg" :: .str z :: ws)].map some ++ List.replicate (N_Drafts_put.length - [P.obj d, .lst (.str "peg" :: .str z :: ws)].length) none) h = .rt q h2 := by
    unfold b_Drafts_put
    have lt : (1 : Int) < (ws.length : Int) + 1 + 1 := by omega
    simp [lt, mt]
  show mkFn _ b_Drafts_put _ h = _
  unfold mkFn
  rw [b]
  show Out.ok q (trim h q h2) = _
  rw [trim_len l]
theorem p_put_ring_put (D : DrS h d p r c k pegs rings cords) {ws : List P} {q : P} {h2 : AH} {z : Str} (e : m_Drafts_put_ring [.obj d, .lst (.str "ring" :: .str z :: ws)] h = .ok q h2) (l : h2.length = h.length) : m_Drafts_put [.obj d, .lst (.str "ring" :: .str z :: ws)] h = .ok q h2 := by
  have mt : eMeth "Drafts" 2 m_Drafts_put_ring (eV 0) (lC (eV 1) lN) [some (.obj d), some (.lst (.str "ring" :: .str z :: ws))] h = .ok q h2 :=
    (eMeth_of (n := d) (xs := [.lst (.str "ring" :: .str z :: ws)]) (h1 := h) (h2 := h) (eV_some rfl) D.ins (by simp) rfl).trans e
  have b : b_Drafts_put ([P.obj d, .lst (.str "ring" :: .str z :: ws)].map some ++ List.replicate (N_Drafts_put.length - [P.obj d, .lst (.str "ring" :: .str z :: ws)].length) none) h = .rt q h2 := by
    unfold b_Drafts_put
    have lt : (1 : Int) < (ws.length : Int) + 1 + 1 := by omega
    have ne : (("ring" : Str) == ("peg" : Str)) = false := by decide
    simp [lt, mt, ne]
  show mkFn _ b_Drafts_put _ h = _
  unfold mkFn
  rw [b]
  show Out.ok q (trim h q h2) = _
  rw [trim_len l]
theorem p_put_cord_put (D : DrS h d p r c k pegs rings cords) {ws : List P} {q : P} {h2 : AH} (e : m_Drafts_put_cord [.obj d, .lst (.str "cord" :: ws)] h = .ok q h2) (l : h2.length = h.length) : m_Drafts_put [.obj d, .lst (.str "cord" :: ws)] h = .ok q h2 := by
  have mt : eMeth "Drafts" 2 m_Drafts_put_cord (eV 0) (lC (eV 1) lN) [some (.obj d), some (.lst (.str "cord" :: ws))] h = .ok q h2 :=
    (eMeth_of (n := d) (xs := [.lst (.str "cord" :: ws)]) (h1 := h) (h2 := h) (eV_some rfl) D.ins (by simp) rfl).trans e
  have b : b_Drafts_put ([P.obj d, .lst (.str "cord" :: ws)].map some ++ List.replicate (N_Drafts_put.length - [P.obj d, .lst (.str "cord" :: ws)].length) none) h = .rt q h2 := by
    unfold b_Drafts_put
    have ne : (("cord" : Str) == ("peg" : Str)) = false := by decide
    have ne2 : (("cord" : Str) == ("ring" : Str)) = false := by decide
    simp [mt, ne, ne2]
  show mkFn _ b_Drafts_put _ h = _
  unfold mkFn
  rw [b]
  show Out.ok q (trim h q h2) = _
  rw [trim_len l]
end
end
end K13


/-! a net from its text -/
namespace K13
open PySem PySem.Spec PyProof.Rows L2 AM
noncomputable section
theorem p_dr_init (h : AH) (k : Int) : m_Drafts_u_init_u [.obj h.length, .int k] (h ++ [.ins "Drafts" []]) = .ok .non (h ++ [.ins "Drafts" [some (.int k), some (.obj (h.length + 3)), some (.obj (h.length + 1)), some (.obj (h.length + 2))], .dct [], .dct [], .lst []]) := by
  have b : b_Drafts_u_init_u [some (.obj h.length), some (.int k)] (h ++ [.ins "Drafts" []]) = .nx [some (.obj h.length), some (.int k)] (h ++ [.ins "Drafts" [some (.int k), some (.obj (h.length + 3)), some (.obj (h.length + 1)), some (.obj (h.length + 2))], .dct [], .dct [], .lst []]) := by
    unfold b_Drafts_u_init_u
    have s1 : ∀ (fs : List (Option P)) (j : AH) (i : Nat) (p : P), setSlotP "Drafts" i (.obj h.length) p (h ++ .ins "Drafts" fs :: j) = some (h ++ .ins "Drafts" (putSl i p fs) :: j) := fun fs j i p => by
      rw [set_slot (fs := fs) (by simp)]
      simp
    have g3 : ∀ (r : GMs) (a b c : P) (t : AM.Loc) (h : AH), gU 3 r (.tup [a, b, c]) t h = r [a, b, c] t h := fun r a b c t h => rfl
    simp [s1, g3]
    rfl
  show mkFn _ b_Drafts_u_init_u _ _ = _
  unfold mkFn
  have e : ([P.obj h.length, .int k].map some ++ List.replicate (N_Drafts_u_init_u.length - [P.obj h.length, .int k].length) none) = [some (.obj h.length), some (.int k)] := rfl
  rw [e, b]
  show Out.ok P.non (trim _ _ _) = _
  rw [trim_keep (k := h.length) (o := .ins "Drafts" [some (.int k), some (.obj (h.length + 3)), some (.obj (h.length + 1)), some (.obj (h.length + 2))]) (o2 := .ins "Drafts" []) (by simp) (by simp) (by simp) (by simp) (by
    show List.all _ _ = false
    simp [clean])]
structure DraftR where
  pegs : List (Str × List Fr)
  rings : List (Str × List Fr × List Fr)
  cords : List (Str × Str)
def wordsP (ws : List Str) : P := .lst (ws.map P.str)
/-- a line told to the drafts -/
inductive Put (k : Nat) : DraftR → List Str → DraftR → Prop
  | peg {pegs x ws xs} (o : nameOk x = true) (np : x ∉ pegs.map (·.1)) (hw : WordsAre ws xs) (hx : ∀ x ∈ xs, NumOk x) (lw : ws.length = k) (l16 : pegs.length < 16) : Put k ⟨pegs, [], []⟩ ("peg" :: x :: ws) ⟨pegs ++ [(x, xs)], [], []⟩
  | ring {pegs rings x ws xs ys} (o : nameOk x = true) (np : x ∉ pegs.map (·.1)) (nr : x ∉ rings.map (·.1)) (ne : pegs ≠ []) (hw : WordsAre ws (xs ++ ys)) (hx : ∀ x ∈ xs ++ ys, NumOk x) (lx : xs.length = k) (ly : ys.length = k) (l8 : rings.length < 8) : Put k ⟨pegs, rings, []⟩ ("ring" :: x :: ws) ⟨pegs, rings ++ [(x, (xs, ys))], []⟩
  | cord {pegs rings cords x y rx ry} (hx : NetR.place ⟨"", k, pegs, rings, cords⟩ x = some rx) (hy : NetR.place ⟨"", k, pegs, rings, cords⟩ y = some ry) (ne : rx ≠ ry) (hr : x ∈ rings.map (·.1) ∨ y ∈ rings.map (·.1)) (n1 : (x, y) ∉ cords) (n2 : (y, x) ∉ cords) (l20 : cords.length < 20) (so : strsOk (x, y) = true) (sos : ∀ c ∈ cords, strsOk c = true) : Put k ⟨pegs, rings, cords⟩ ["cord", x, y] ⟨pegs, rings, cords ++ [(x, y)]⟩
inductive Puts (k : Nat) : DraftR → List (List Str) → DraftR → Prop
  | nil {a} : Puts k a [] a
  | cons {a b c ws r} : Put k a ws b → Puts k b r c → Puts k a (ws :: r) c
def Same (h h' : AH) (p r c : Nat) : Prop := h'.length = h.length ∧ ∀ n, n ≠ p → n ≠ r → n ≠ c → h'[n]? = h[n]?
theorem p_put {d p r c k : Nat} (l3 : k ≤ 3) {A B : DraftR} {ws : List Str} (H : Put k A ws B) {h : AH} (D : DrS h d p r c k A.pegs A.rings A.cords) : ∃ h', m_Drafts_put [.obj d, wordsP ws] h = .ok (.bl true) h' ∧ DrS h' d p r c k B.pegs B.rings B.cords ∧ Same h h' p r c := by
  cases H with
  | peg o np hw hx lw l16 =>
    exact ⟨_, p_put_peg_put D (p_put_peg D o np hw hx lw l3 l16) (by simp), D.withPegs _, by simp, fun n a _ _ => List.getElem?_set_ne (Ne.symm a)⟩
  | ring o np nr ne hw hx lx ly l8 =>
    exact ⟨_, p_put_ring_put D (p_put_ring D o np nr ne hw hx lx ly l3 l8) (by simp), D.withRings _, by simp, fun n _ a _ => List.getElem?_set_ne (Ne.symm a)⟩
  | cord hx hy ne hr n1 n2 l20 so sos =>
    exact ⟨_, p_put_cord_put D (p_put_cord D hx hy ne hr n1 n2 l20 so sos) (by simp), D.withCords _, by simp, fun n _ _ a => List.getElem?_set_ne (Ne.symm a)⟩
theorem p_puts {d p r c k : Nat} (l3 : k ≤ 3) {S : Src} (hS : S.w = []) {h0 : AH} {u v w : Option P} : ∀ {rows : List (List Str)} {A B : DraftR} (H : Puts k A rows B) {h : AH} (D : DrS h d p r c k A.pegs A.rings A.cords) (i : Nat) (x y : Option P),
    ∃ h' x' y', forP S h0 (gT 2 (gsC (gN 4) (gsC (gN 5) gsN))) (sIf (tNt (tT (eMeth "Drafts" 2 m_Drafts_put (eV 3) (lC (eV 5) lN)))) sBad sNx) (enumP i (rows.map wordsP)) [u, v, w, some (.obj d), x, y] h = .nx [u, v, w, some (.obj d), x', y'] h' ∧ DrS h' d p r c k B.pegs B.rings B.cords ∧ Same h h' p r c := by
  intro rows
  induction rows with
  | nil =>
    intro A B H h D i x y
    cases H
    refine ⟨h, x, y, ?_, D, rfl, fun _ _ _ _ => rfl⟩
    show forP _ _ _ _ [] _ _ = _
    unfold forP
    rw [if_pos (by unfold Src.still; rw [hS]; simp)]
  | cons ws rows ih =>
    intro A B H h D i x y
    cases H with
    | cons H1 H2 =>
      obtain ⟨h1, e1, D1, S1⟩ := p_put l3 H1 D
      obtain ⟨h2, x', y', e2, D2, S2⟩ := ih H2 D1 (i + 1) (some (.int (i : Nat))) (some (wordsP ws))
      refine ⟨h2, x', y', ?_, D2, S2.1.trans S1.1, fun n a b e => (S2.2 n a b e).trans (S1.2 n a b e)⟩
      show forP _ _ _ _ (.tup [.int (i : Nat), wordsP ws] :: enumP (i + 1) (rows.map wordsP)) _ _ = _
      unfold forP
      rw [if_pos (by unfold Src.still; rw [hS]; simp)]
      have g : gT 2 (gsC (gN 4) (gsC (gN 5) gsN)) (.tup [.int (i : Nat), wordsP ws]) [u, v, w, some (.obj d), x, y] h = some ([u, v, w, some (.obj d), some (.int (i : Nat)), some (wordsP ws)], h) := rfl
      rw [g]
      dsimp only
      have mt : eMeth "Drafts" 2 m_Drafts_put (eV 3) (lC (eV 5) lN) [u, v, w, some (.obj d), some (.int (i : Nat)), some (wordsP ws)] h = .ok (.bl true) h1 := (eMeth_of (n := d) (xs := [wordsP ws]) (h1 := h) (h2 := h) (eV_some rfl) D.ins (by simp) rfl).trans e1
      have b : sIf (tNt (tT (eMeth "Drafts" 2 m_Drafts_put (eV 3) (lC (eV 5) lN)))) sBad sNx [u, v, w, some (.obj d), some (.int (i : Nat)), some (wordsP ws)] h = .nx [u, v, w, some (.obj d), some (.int (i : Nat)), some (wordsP ws)] h1 := by
        simp [mt]
      rw [b]
      exact e2
/-- the text of a net: its lines' words -/
structure TextOf (text : Str) (k : Nat) (cw : Str) (rows : List (List Str)) : Prop where
  few : text.length + 2 ≤ 16777216
  split : (Txt.split text "\n").map (fun x => Txt.split x " ") = [("net" : Str), cw] :: rows
  lines : ∀ x ∈ Txt.split text "\n", x.length + 2 ≤ 16777216
  many : rows.length ≤ 1000
  word : WhIs cw k
  k1 : 1 ≤ k
  k3 : k ≤ 3
theorem p_drafts_of {text cw : Str} {k : Nat} {rows : List (List Str)} {B : DraftR} (T : TextOf text k cw rows) (H : Puts k ⟨[], [], []⟩ rows B) (ne : B.pegs ≠ []) (h : AH) :
    ∃ h' p r c, m_drafts_of [.str text] h = .ok (.obj h.length) h' ∧ DrS h' h.length p r c k B.pegs B.rings B.cords ∧ ∀ n, n < h.length → h'[n]? = h[n]? := by
  have lr : (Txt.split text "\n").length = rows.length + 1 := by
    have z := congrArg List.length T.split
    rw [List.length_map] at z
    exact z
  have lo := p_lines_of h T.few T.lines (by have := T.many; omega)
  have lo2 : ((Txt.split text "\n").map fun x => P.lst ((Txt.split x " ").map P.str)) = wordsP [("net" : Str), cw] :: rows.map wordsP := by
    have z := congrArg (List.map wordsP) T.split
    rw [List.map_map] at z
    exact z
  rw [lo2] at lo
  have co := p_coords_in (k := k) h T.word (by have := T.k1; omega) (by have := T.k3; omega)
  have ini := new_of (p_dr_init h k)
  have D0 : DrS (h ++ [.ins "Drafts" [some (.int k), some (.obj (h.length + 3)), some (.obj (h.length + 1)), some (.obj (h.length + 2))], .dct [], .dct [], .lst []]) h.length (h.length + 1) (h.length + 2) (h.length + 3) k [] [] [] :=
    ⟨by simp, by simp [pegK], by simp [ringK], by simp, by omega⟩
  have cut : cutP (wordsP [("net" : Str), cw] :: rows.map wordsP) (some 1) none = rows.map wordsP := by
    have z := cutP_from (wordsP [("net" : Str), cw] :: rows.map wordsP) 1
    exact z
  obtain ⟨h1, x', y', ef, D1, S1⟩ := p_puts T.k3 (S := ⟨enumP 0 (rows.map wordsP), []⟩) rfl (h0 := h ++ [.ins "Drafts" [some (.int k), some (.obj (h.length + 3)), some (.obj (h.length + 1)), some (.obj (h.length + 2))], .dct [], .dct [], .lst []]) (u := some (.str text)) (v := some (.lst (wordsP [("net" : Str), cw] :: rows.map wordsP))) (w := some (.int k)) H D0 0 none none
  refine ⟨h1 ++ [.dct []], h.length + 1, h.length + 2, h.length + 3, ?_, D1.app, fun n l => ?_⟩
  · have D2 : DrS (h1 ++ [.dct []]) h.length (h.length + 1) (h.length + 2) (h.length + 3) k B.pegs B.rings B.cords := D1.app
    have s2 : ∀ a b c d e, eSlot "Drafts" 2 (eV 3) [a, b, c, some (.obj h.length), d, e] h1 = .ok (.obj (h.length + 1)) h1 := fun a b c d e => eSlot_of (eV_some rfl) D1.ins rfl
    have c0 : cmpV (eqD0 false) (.obj (h.length + 1)) (.obj h1.length) (h1 ++ [.dct []]) = .ok false (h1 ++ [.dct []]) := by
      rw [cmp_D0 D2.hp (by simp)]
      cases q : B.pegs with
      | nil => exact absurd q ne
      | cons _ _ => rfl
    have b : b_drafts_of [some (.str text), none, none, none, none, none] h = .rt (.obj h.length) (h1 ++ [.dct []]) := by
      unfold b_drafts_of
      have co2 : m_coords_in [wordsP [("net" : Str), cw]] h = .ok (.int k) h := co
      simp [lo, co2, ini, cut, ef, s2, c0]
    show mkFn _ b_drafts_of _ _ = _
    unfold mkFn
    have e : ([P.str text].map some ++ List.replicate (N_drafts_of.length - [P.str text].length) none) = [some (.str text), none, none, none, none, none] := rfl
    rw [e, b]
    show Out.ok (P.obj h.length) (trim h (.obj h.length) (h1 ++ [.dct []])) = _
    unfold trim
    rw [if_neg]
    rintro ⟨z, _⟩
    have z : decide (h.length < h.length) = true := z
    have := of_decide_eq_true z
    omega
  · have l1 := S1.1
    rw [List.getElem?_append_left (by simp at l1; omega), S1.2 n (by omega) (by omega) (by omega), List.getElem?_append_left l]
theorem p_net_init {text cw : Str} {k : Nat} {rows : List (List Str)} {B : DraftR} (T : TextOf text k cw rows) (H : Puts k ⟨[], [], []⟩ rows B) (ne : B.pegs ≠ []) (h : AH) :
    ∃ h', newOf "Net" m_Net_u_init_u [.str text] h = .ok (.obj h.length) h' ∧ NetAt h' h.length ⟨text, k, B.pegs, B.rings, B.cords⟩ ∧ ∀ i, i < h.length → h'[i]? = h[i]? := by
  obtain ⟨h1, p, r, c, e1, D1, S1⟩ := p_drafts_of T H ne (h ++ [.ins "Net" []])
  have a1 : h1[h.length]? = some (.ins "Net" []) := by
    rw [S1 h.length (by simp)]
    simp
  have l1 : h.length < h1.length := (List.getElem?_eq_some_iff.mp a1).1
  have gt : ∀ (X : O), (h1.set h.length X)[h.length]? = some X := fun X => set_get a1
  have ld : (h ++ [O.ins "Net" []]).length = h.length + 1 := by simp
  rw [ld] at e1 D1
  have t1 : setSlotP "Net" 1 (.obj h.length) (.obj (h.length + 1)) h1 = some (h1.set h.length (.ins "Net" [none, some (.obj (h.length + 1))])) := set_slot a1
  have t2 : setSlotP "Net" 3 (.obj h.length) (.str text) (h1.set h.length (.ins "Net" [none, some (.obj (h.length + 1))])) = some (h1.set h.length (.ins "Net" [none, some (.obj (h.length + 1)), none, some (.str text)])) := by
    rw [set_slot (gt _), List.set_set]
    rfl
  have D3 : ∀ (fs : List (Option P)) (j : AH), DrS (h1.set h.length (.ins "Net" fs) ++ j) (h.length + 1) p r c k B.pegs B.rings B.cords := fun fs j =>
    DrS.app ⟨get_set D1.ins a1 (fun e => by omega), get_set D1.hp a1 (fun e => by subst e; have z := D1.hp.symm.trans a1; cases z), get_set D1.hr a1 (fun e => by subst e; have z := D1.hr.symm.trans a1; cases z), get_set D1.hc a1 (fun e => by subst e; have z := D1.hc.symm.trans a1; cases z), D1.ne⟩
  have D4 := D3 [none, some (.obj (h.length + 1)), none, some (.str text)] []
  rw [List.append_nil] at D4
  have s1 : ∀ a, eSlot "Drafts" 1 (eSlot "Net" 1 (eV 0)) [some (.obj h.length), a] (h1.set h.length (.ins "Net" [none, some (.obj (h.length + 1)), none, some (.str text)])) = .ok (.obj c) (h1.set h.length (.ins "Net" [none, some (.obj (h.length + 1)), none, some (.str text)])) := fun a =>
    eSlot_of (eSlot_of (eV_some rfl) (gt _) rfl) D4.ins rfl
  have tu := tup_lst D4.hc
  have t3 : ∀ q, setSlotP "Net" 0 (.obj h.length) q (h1.set h.length (.ins "Net" [none, some (.obj (h.length + 1)), none, some (.str text)]) ++ [.dct []]) = some (h1.set h.length (.ins "Net" [some q, some (.obj (h.length + 1)), none, some (.str text)]) ++ [.dct []]) := fun q => by
    rw [set_slot (get_app (gt _)), List.set_append_left _ _ (by simpa using l1), List.set_set]
    rfl
  have t4 : ∀ q q2, setSlotP "Net" 2 (.obj h.length) q2 (h1.set h.length (.ins "Net" [some q, some (.obj (h.length + 1)), none, some (.str text)]) ++ [.dct []]) = some (h1.set h.length (.ins "Net" [some q, some (.obj (h.length + 1)), some q2, some (.str text)]) ++ [.dct []]) := fun q q2 => by
    rw [set_slot (get_app (gt _)), List.set_append_left _ _ (by simpa using l1), List.set_set]
    rfl
  have b : b_Net_u_init_u [some (.obj h.length), some (.str text)] (h ++ [.ins "Net" []]) = .nx [some (.obj h.length), some (.str text)] (h1.set h.length (.ins "Net" [some (.tup (B.cords.map pairP)), some (.obj (h.length + 1)), some (.obj h1.length), some (.str text)]) ++ [.dct []]) := by
    unfold b_Net_u_init_u
    simp [tyB, e1, t1, t2, s1, tu, t3, t4]
  have fin := D3 [some (.tup (B.cords.map pairP)), some (.obj (h.length + 1)), some (.obj h1.length), some (.str text)] [.dct []]
  refine ⟨_, new_of (h2 := h1.set h.length (.ins "Net" [some (.tup (B.cords.map pairP)), some (.obj (h.length + 1)), some (.obj h1.length), some (.str text)]) ++ [.dct []]) ?_, ⟨h.length + 1, _, get_app (gt _), rfl, rfl, rfl, fin.dr text⟩, fun i l => ?_⟩
  · show mkFn _ b_Net_u_init_u _ _ = _
    unfold mkFn
    have e : ([P.obj h.length, .str text].map some ++ List.replicate (N_Net_u_init_u.length - [P.obj h.length, .str text].length) none) = [some (.obj h.length), some (.str text)] := rfl
    rw [e, b]
    show Out.ok P.non (trim _ _ _) = _
    rw [trim_keep (k := h.length) (o := .ins "Net" [some (.tup (B.cords.map pairP)), some (.obj (h.length + 1)), some (.obj h1.length), some (.str text)]) (o2 := .ins "Net" []) (by simp) (get_app (gt _)) (by simp) (by simp) (by
      show List.all _ _ = false
      simp [clean])]
  · rw [List.getElem?_append_left (by rw [List.length_set]; omega), List.getElem?_set_ne (by omega), S1 i (by rw [ld]; omega), List.getElem?_append_left l]
end
end K13


/-! draws -/
namespace K13
open PySem PySem.Spec PyProof.Rows L2 AM
noncomputable section
theorem mul_lt {i j : Int} {h : AH} (a : i.natAbs < 2 ^ 2000) (b : j.natAbs < 2 ^ 2000) : vMul (.int i) (.int j) h = .ok (.int (i * j)) h := v_mul h (by
  have z1 := log2_lt (by omega) a
  have z2 := log2_lt (by omega) b
  unfold mulOk
  exact decide_eq_true (by omega))
theorem abs_lt {i : Int} {b : Nat} (h0 : 0 ≤ i) (hb : i < ((2 ^ b : Nat) : Int)) : i.natAbs < 2 ^ b := by omega
theorem lt_2000 {n b : Nat} (h : n < 2 ^ b) (l : b ≤ 2000) : n < 2 ^ 2000 := Nat.lt_of_lt_of_le h (Nat.pow_le_pow_right (by omega) l)
theorem ints_map : ∀ xs : List Int, intsOf (xs.map P.int) = some xs
  | [] => rfl
  | x :: xs => by
    show (intsOf (xs.map P.int)).map (x :: ·) = _
    rw [ints_map xs]
    rfl
theorem f_sum (xs : List Int) (h : AH) : fSum [.lst (xs.map P.int)] h = .ok (.int xs.sum) h := by
  show (match (lstOf h (.lst (xs.map P.int))).bind intsOf with
    | some bs => Out.ok (P.int bs.sum) h
    | none => .bad) = _
  rw [show lstOf h (.lst (xs.map P.int)) = some (xs.map P.int) from rfl]
  show (match intsOf (xs.map P.int) with
    | some bs => Out.ok (P.int bs.sum) h
    | none => .bad) = _
  rw [ints_map]
theorem slice_scr (xs : List P) (lo hi : Option Int) (h : AH) : sliceP false (.scr xs) lo hi h = .ok (.lst (cutP xs lo hi)) h := rfl
theorem pow60 (h : AH) : vPow (.int 10) (.int 60) h = .ok (.int (10 ^ 60)) h := rfl
theorem pow300 (h : AH) : vPow (.int (10 ^ 60)) (.int 5) h = .ok (.int ((10 ^ 60) ^ 5)) h := rfl
theorem pow18 (h : AH) : vPow (.int 10) (.int 18) h = .ok (.int (10 ^ 18)) h := rfl
@[simp] theorem f_int_int (i : Int) (h : AH) : fInt [.int i] h = .ok (.int i) h := rfl
@[simp] theorem f_int_bl (b : Bool) (h : AH) : fInt [.bl b] h = .ok (.int (if b then 1 else 0)) h := rfl
def bigM : Int := (10 ^ 60) ^ 5
theorem bigM_pos : 0 < bigM := by unfold bigM; decide
theorem bigM_lt : bigM < ((2 ^ 1000 : Nat) : Int) := by unfold bigM; decide
structure PotOk (a b : Int) : Prop where
  a0 : 0 ≤ a
  a1 : a < ((2 ^ 1000 : Nat) : Int)
  b0 : 0 ≤ b
  b1 : b < ((2 ^ 62 : Nat) : Int)
theorem p_pot (ns : List Int) (i : Nat) (hi : i ≤ 63) (h : AH) : ∃ a b : Int, PotOk a b ∧ m__law_pot [.scr (ns.map P.int), .int (i : Nat)] h = .ok (.obj h.length) (h ++ [.lst [.int a, .int b, .int 0]]) := by
  have ai : (i : Int).natAbs < 2 ^ 200 := by
    have : (i : Int).natAbs ≤ 63 := by omega
    exact Nat.lt_of_le_of_lt this (by decide)
  have mi : ∀ (k : Int) (hh : AH), k.natAbs < 2 ^ 200 → vMul (.int k) (.int (i : Nat)) hh = .ok (.int (k * (i : Nat))) hh := fun k hh l => mul_lt (lt_2000 l (by omega)) (lt_2000 ai (by omega))
  have mii : ∀ (k : Int) (hh : AH), k.natAbs < 2 ^ 200 → vMul (.int (k * (i : Nat))) (.int (i : Nat)) hh = .ok (.int (k * (i : Nat) * (i : Nat))) hh := fun k hh l => mul_lt (by
    rw [Int.natAbs_mul]
    have : k.natAbs * (i : Int).natAbs < 2 ^ 200 * 2 ^ 200 := Nat.mul_lt_mul'' l ai
    rw [← Nat.pow_add] at this
    exact lt_2000 this (by omega)) (lt_2000 ai (by omega))
  have cell : ∃ c : Int, (eIf (tCp ltP (eV 1) (eCB fLen (lC (eV 0) lN))) (eB itemP (eV 0) (eV 1)) (eB (vAdd false) (eB (vAdd false) (eB vMod (eCB fSum (lC (eSlice false (eV 0) oN (oS (eC (.int 1)))) lN)) (eC (.int 1000003))) (eB vMul (eC (.int 2540)) (eV 1))) (eC (.int 1568)))) [some (.scr (ns.map P.int)), some (.int (i : Nat)), none, none, none] h = .ok (.int c) h := by
    by_cases l : i < ns.length
    · refine ⟨ns[i], ?_⟩
      have l2 : (i : Int) < (ns.length : Int) := by omega
      simp [l2, AM.atI_nat, l]
    · have l2 : ¬ (i : Int) < (ns.length : Int) := by omega
      have cut : cutP (ns.map P.int) none (some 1) = (ns.map P.int).take 1 := by
        have z := cutP_upto (ns.map P.int) 1
        exact z
      refine ⟨(ns.take 1).sum % 1000003 + 2540 * (i : Nat) + 1568, ?_⟩
      simp only [eIf_at, tCp_at]
      simp [l2, slice_scr]
      have fs : fSum [.lst ((ns.map P.int).take 1)] h = .ok (.int (ns.take 1).sum) h := by
        rw [← List.map_take]
        exact f_sum _ _
      simp [cut, fs, mi]
  obtain ⟨c, ec⟩ := cell
  have a0 : 0 ≤ ((c.natAbs : Nat) : Int) % bigM := Int.emod_nonneg _ (by have := bigM_pos; omega)
  have a1 : ((c.natAbs : Nat) : Int) % bigM < bigM := Int.emod_lt_of_pos _ bigM_pos
  have a2 := bigM_lt
  have m1 : ∀ (b : Bool) (hh : AH), vMul (.int (((c.natAbs : Nat) : Int) % bigM)) (.int (if b then 1 else 0)) hh = .ok (.int ((((c.natAbs : Nat) : Int) % bigM) * (if b then 1 else 0))) hh := fun b hh => mul_lt (lt_2000 (abs_lt (b := 1000) a0 (by omega)) (by omega)) (by cases b <;> exact Nat.lt_of_le_of_lt (by decide) (Nat.one_lt_two_pow (n := 2000) (by omega)))
  have s0 : 0 ≤ c % 2305843009213693951 := Int.emod_nonneg _ (by omega)
  have s1 : c % 2305843009213693951 < 2305843009213693951 := Int.emod_lt_of_pos _ (by omega)
  have m2 : ∀ (k : Int) (hh : AH), k.natAbs < 2 ^ 200 → vMul (.int (c % 2305843009213693951)) (.int k) hh = .ok (.int (c % 2305843009213693951 * k)) hh := fun k hh l => mul_lt (lt_2000 (b := 62) (by omega) (by omega)) (lt_2000 l (by omega))
  have vm : ∀ hh, vMod (.int ((c.natAbs : Nat) : Int)) (.int ((10 ^ 60) ^ 5)) hh = .ok (.int (((c.natAbs : Nat) : Int) % bigM)) hh := fun hh => v_mod hh bigM_pos
  have aok : ∀ b : Bool, 0 ≤ (((c.natAbs : Nat) : Int) % bigM) * (if b then 1 else 0) ∧ (((c.natAbs : Nat) : Int) % bigM) * (if b then 1 else 0) < ((2 ^ 1000 : Nat) : Int) := fun b => by
    cases b
    · refine ⟨by simp, ?_⟩
      simp only [Bool.false_eq_true, if_false, Int.mul_zero]
      omega
    · refine ⟨by simpa using a0, ?_⟩
      simp only [if_true, Int.mul_one]
      omega
  refine ⟨_, (c % 2305843009213693951 * 80102 + 10890 * (i : Nat) * (i : Nat) + 1670) % 2305843009213693921, ⟨(aok (decide (10 ^ 18 ≤ ((c.natAbs : Nat) : Int)))).1, (aok _).2, Int.emod_nonneg _ (by omega), Int.lt_of_lt_of_le (Int.emod_lt_of_pos _ (by omega)) (by decide)⟩, ?_⟩
  have b : b__law_pot [some (.scr (ns.map P.int)), some (.int (i : Nat)), none, none, none] h = .rt (.obj h.length) (h ++ [.lst [.int ((((c.natAbs : Nat) : Int) % bigM) * (if (decide (10 ^ 18 ≤ ((c.natAbs : Nat) : Int))) then 1 else 0)), .int ((c % 2305843009213693951 * 80102 + 10890 * (i : Nat) * (i : Nat) + 1670) % 2305843009213693921), .int 0]]) := by
    unfold b__law_pot
    rw [sQ_at, sA_at, ec]
    simp only [Out.toS_ok, gN_at, OutS.seq_nx, sQ_at, sA_at, eB_at, eCB_at, lC_at, lN_at, eC_at, pow60, pow300, pow18, Out.bind_ok, f_abs, f_int_int, List.set, eV_some (i := 2) (t := [some (.scr (ns.map P.int)), some (.int (i : Nat)), some (.int c), none, none]) rfl, vm, eCmp_at, cmp_ge, f_int_bl, m1]
    simp [m2, mi, mii]
  show mkFn _ b__law_pot _ h = _
  unfold mkFn
  have e : ([P.scr (ns.map P.int), .int (i : Nat)].map some ++ List.replicate (N__law_pot.length - [P.scr (ns.map P.int), .int (i : Nat)].length) none) = [some (.scr (ns.map P.int)), some (.int (i : Nat)), none, none, none] := rfl
  rw [e, b]
  show Out.ok (P.obj h.length) (trim h (.obj h.length) _) = _
  unfold trim
  rw [if_neg]
  rintro ⟨z, _⟩
  have z : decide (h.length < h.length) = true := z
  have := of_decide_eq_true z
  omega
end
end K13


/-! draws, on -/
namespace K13
open PySem PySem.Spec PyProof.Rows L2 AM
noncomputable section
theorem item_at {h : AH} {n : Nat} {xs : List P} {i : Int} {p : P} (e : h[n]? = some (.lst xs)) (g : atI xs i = some p) : itemP (.obj n) (.int i) h = .ok p h := by
  have d : isDct h (.obj n) = false := by
    show (match h[n]? with
      | some (.dct _) => true
      | _ => false) = false
    rw [e]
  unfold itemP
  rw [if_neg (by rw [d]; decide)]
  have l : lstOf h (.obj n) = some xs := by
    show (match h[n]? with
      | some (.lst xs) => some xs
      | _ => none) = some xs
    rw [e]
  show (match lstOf h (.obj n) with
    | some xs => (match atI xs i with
      | some p => Out.ok p h
      | none => .bad)
    | none => .bad) = _
  rw [l]
  dsimp only
  rw [g]
theorem put_lst {h : AH} {n : Nat} {xs : List P} {i : Int} {p : P} {j : Nat} (e : h[n]? = some (.lst xs)) (g : ixN xs.length i = some j) : setItemP (.obj n) (.int i) p h = some (h.set n (.lst (xs.set j p))) := by
  unfold setItemP
  dsimp only
  rw [e]
  dsimp only
  rw [g]
  rfl
theorem pow3 {x : Int} (h : AH) (l : x.natAbs < 2 ^ 250) : vPow (.int x) (.int 3) h = .ok (.int (x ^ 3)) h := by
  show (if powOk x 3 = true then Out.ok (P.int (x ^ 3)) h else .bad) = _
  rw [if_pos]
  have z := intBits_le_iff.mpr l
  show (decide ((0 : Int) ≤ 3) && decide ((Builtin.Int.intBits x : Int) * 3 ≤ 2 ^ 27)) = true
  rw [decide_eq_true (by decide), decide_eq_true (by omega)]
  rfl
/-- what a pot holds -/
structure PotAt (h : AH) (n : Nat) (a b t : Int) : Prop extends PotOk a b where
  at_ : h[n]? = some (.lst [.int a, .int b, .int t])
  t0 : 0 ≤ t
  t1 : t ≤ 1000000
def potO (a b t : Int) : O := .lst [.int a, .int b, .int t]
theorem p_take {h : AH} {n : Nat} {a b t : Int} (Q : PotAt h n a b t) (tl : t < 1000000) {u : Nat} (u0 : 0 < u) (u1 : u < 2 ^ 60) :
    ∃ (d : Nat) (a' t' : Int), d < u ∧ PotOk a' b ∧ 0 ≤ t' ∧ t' ≤ t + 1 ∧ m__law_take [.obj n, .int (u : Nat)] h = .ok (.int (d : Nat)) (h.set n (potO a' b t')) := by
  have i0 := item_at (i := 0) (p := .int a) Q.at_ rfl
  have u2 : (0 : Int) < (u : Int) := by omega
  by_cases c : 0 < a
  · have d0 : 0 ≤ a % (u : Int) := Int.emod_nonneg _ (by omega)
    have d1 : a % (u : Int) < (u : Int) := Int.emod_lt_of_pos _ u2
    refine ⟨(a % (u : Int)).toNat, a / (u : Int), t, by omega, ⟨Int.ediv_nonneg Q.a0 (by omega), Int.lt_of_le_of_lt (Int.ediv_le_self _ Q.a0) Q.a1, Q.b0, Q.b1⟩, Q.t0, by omega, ?_⟩
    refine fn_set (j := []) ?_ rfl rfl
    have st := put_lst (i := 0) (p := .int (a / (u : Int))) Q.at_ rfl
    have vd := v_div (i := a) (j := (u : Int)) h u2 (Nat.lt_of_lt_of_le (log2_lt (b := 60) (by omega) (by omega)) (by omega))
    have tn : (((a % (u : Int)).toNat : Nat) : Int) = a % (u : Int) := by omega
    unfold b__law_take
    simp [i0, c, v_mod h u2, vd, st, tn]
    rfl
  · have i2 := item_at (i := 2) (p := .int t) Q.at_ rfl
    have st := put_lst (i := 2) (p := .int (t + 1)) Q.at_ rfl
    have st2 : setItemP (.obj n) (.int 2) (.int (t + 1)) h = some (h.set n (potO a b (t + 1))) := st
    have Q1 : (h.set n (potO a b (t + 1)))[n]? = some (.lst [.int a, .int b, .int (t + 1)]) := by
      rw [List.getElem?_set_self (List.getElem?_eq_some_iff.mp Q.at_).1]
      rfl
    have j1 := item_at (i := 1) (p := .int b) Q1 rfl
    have j2 := item_at (i := 2) (p := .int (t + 1)) Q1 rfl
    have t0 := Q.t0
    have b0 := Q.b0
    have b1 := Q.b1
    have pr : ∃ q : Int, 1 ≤ q ∧ q < 2147483648 ∧ atI [P.int 2147483647, .int 2147483629, .int 2147483587, .int 2147483579, .int 2147483563] ((t + 1) % 5) = some (.int q) := by
      have z : (t + 1) % 5 = 0 ∨ (t + 1) % 5 = 1 ∨ (t + 1) % 5 = 2 ∨ (t + 1) % 5 = 3 ∨ (t + 1) % 5 = 4 := by omega
      rcases z with z | z | z | z | z <;> rw [z] <;> exact ⟨_, by decide, by decide, rfl⟩
    obtain ⟨q, q0, q1, eq⟩ := pr
    have tb : (t + 1).natAbs < 2 ^ 200 := Nat.lt_of_le_of_lt (show (t + 1).natAbs ≤ 1000000 by omega) (by decide)
    have ml : ∀ (k x : Int) (hh : AH), k.natAbs < 2 ^ 200 → x.natAbs < 2 ^ 250 → vMul (.int k) (.int x) hh = .ok (.int (k * x)) hh := fun k x hh l1 l2 => mul_lt (lt_2000 l1 (by omega)) (lt_2000 l2 (by omega))
    have tt : 0 ≤ (t + 1) * (t + 1) ∧ (t + 1) * (t + 1) ≤ 1000000 * 1000000 := ⟨Int.mul_nonneg (by omega) (by omega), Int.mul_le_mul (by omega) (by omega) (by omega) (by omega)⟩
    have m1 : ∀ hh, vMul (.int 104274) (.int (t + 1)) hh = .ok (.int (104274 * (t + 1))) hh := fun hh => ml _ _ _ (by decide) (Nat.lt_of_lt_of_le tb (Nat.pow_le_pow_right (by omega) (by omega)))
    have m2 : ∀ hh, vMul (.int (104274 * (t + 1))) (.int (t + 1)) hh = .ok (.int (104274 * (t + 1) * (t + 1))) hh := fun hh => ml _ _ _ (Nat.lt_of_le_of_lt (show (104274 * (t + 1)).natAbs ≤ 1000000000000000 by omega) (by decide)) (Nat.lt_of_lt_of_le tb (Nat.pow_le_pow_right (by omega) (by omega)))
    have xb : 0 ≤ b + 104274 * (t + 1) * (t + 1) + 2024 ∧ b + 104274 * (t + 1) * (t + 1) + 2024 < 2 ^ 62 + 1000000000000000000000 := by
      rw [Int.mul_assoc]
      omega
    have p3 : ∀ hh, vPow (.int (b + 104274 * (t + 1) * (t + 1) + 2024)) (.int 3) hh = .ok (.int ((b + 104274 * (t + 1) * (t + 1) + 2024) ^ 3)) hh := fun hh => pow3 hh (Nat.lt_of_le_of_lt (show (b + 104274 * (t + 1) * (t + 1) + 2024).natAbs ≤ 2 ^ 62 + 1000000000000000000000 by omega) (by decide))
    have g0 : 0 ≤ (b + 104274 * (t + 1) * (t + 1) + 2024) ^ 3 % q := Int.emod_nonneg _ (by omega)
    have g1 : (b + 104274 * (t + 1) * (t + 1) + 2024) ^ 3 % q < q := Int.emod_lt_of_pos _ (by omega)
    generalize hx : (b + 104274 * (t + 1) * (t + 1) + 2024) ^ 3 = x at p3 g0 g1
    have m3 : ∀ hh, vMul (.int 1044) (.int (t + 1)) hh = .ok (.int (1044 * (t + 1))) hh := fun hh => ml _ _ _ (by decide) (Nat.lt_of_lt_of_le tb (Nat.pow_le_pow_right (by omega) (by omega)))
    have k0 : 0 ≤ x % q % 12352 := Int.emod_nonneg _ (by decide)
    have k1 : x % q % 12352 < 12352 := Int.emod_lt_of_pos _ (by decide)
    have m4 : ∀ hh, vMul (.int (x % q)) (.int (x % q % 12352 + 1044 * (t + 1))) hh = .ok (.int (x % q * (x % q % 12352 + 1044 * (t + 1)))) hh := fun hh => ml _ _ _ (Nat.lt_of_le_of_lt (show (x % q).natAbs ≤ 2147483648 by omega) (by decide)) (Nat.lt_of_le_of_lt (show (x % q % 12352 + 1044 * (t + 1)).natAbs ≤ 1000000000000000 by omega) (by decide))
    have f0 : 0 ≤ (x % q * (x % q % 12352 + 1044 * (t + 1))) % 2305843009213693907 / 167 % (u : Int) := Int.emod_nonneg _ (by omega)
    have f1 : (x % q * (x % q % 12352 + 1044 * (t + 1))) % 2305843009213693907 / 167 % (u : Int) < (u : Int) := Int.emod_lt_of_pos _ u2
    refine ⟨((x % q * (x % q % 12352 + 1044 * (t + 1))) % 2305843009213693907 / 167 % (u : Int)).toNat, a, t + 1, by omega, Q.toPotOk, by omega, by omega, ?_⟩
    have tn : ((((x % q * (x % q % 12352 + 1044 * (t + 1))) % 2305843009213693907 / 167 % (u : Int)).toNat : Nat) : Int) = (x % q * (x % q % 12352 + 1044 * (t + 1))) % 2305843009213693907 / 167 % (u : Int) := by omega
    refine fn_set (j := []) ?_ rfl rfl
    have vq : ∀ y hh, vMod (.int y) (.int q) hh = .ok (.int (y % q)) hh := fun y hh => v_mod hh (by omega)
    have vu : ∀ y hh, vMod (.int y) (.int (u : Nat)) hh = .ok (.int (y % (u : Int))) hh := fun y hh => v_mod hh u2
    have vd : ∀ y hh, vDiv (.int y) (.int 167) hh = .ok (.int (y / 167)) hh := fun y hh => v_div hh (by decide) (by decide)
    have a0 : a ≤ 0 := by omega
    unfold b__law_take
    simp [i0, c, i2, st2, j1, j2, eq, m1, m2, p3, hx, vq, m3, m4, vd, vu, tn]
end
end K13


/-! several things drawn -/
namespace K13
open PySem PySem.Spec PyProof.Rows L2 AM
noncomputable section
theorem pop_at {h : AH} {n : Nat} {xs : List P} {d : Nat} {p : P} (e : h[n]? = some (.lst xs)) (g : xs[d]? = some p) (l : xs.length ≤ 1000) : mPop (.obj n) [.int (d : Nat)] h = .ok p (h.set n (.lst (xs.eraseIdx d))) := by
  have z : objL h (.obj n) = some (n, xs) := by
    show (match h[n]? with
      | some (.lst xs) => some (n, xs)
      | _ => none) = _
    rw [e]
  have dl := (List.getElem?_eq_some_iff.mp g).1
  have s : seqIndex? (d : Int) xs.length = some d := by
    unfold seqIndex?
    simp
    omega
  unfold mPop
  rw [z]
  dsimp only
  rw [if_pos (by omega), s]
  dsimp only
  rw [g]
theorem perm_erase {α : Type} : ∀ (l : List α) (d : Nat) (h : d < l.length), (l[d] :: l.eraseIdx d).Perm l
  | x :: l, 0, _ => List.Perm.refl _
  | x :: l, d + 1, h => by
    have h' : d < l.length := Nat.lt_of_succ_lt_succ h
    show (l[d] :: x :: l.eraseIdx d).Perm (x :: l)
    exact (List.Perm.swap x l[d] _).trans (List.Perm.cons x (perm_erase l d h'))
theorem map_erase {α β : Type} (f : α → β) : ∀ (l : List α) (d : Nat), (l.map f).eraseIdx d = (l.eraseIdx d).map f
  | [], _ => rfl
  | x :: l, 0 => rfl
  | x :: l, d + 1 => by
    show f x :: (l.map f).eraseIdx d = f x :: (l.eraseIdx d).map f
    rw [map_erase f l d]
theorem p_some {α : Type} (f : α → P) (hf : ∀ x, clean 0 (f x) = true) {h : AH} {n : Nat} {a b t : Int} (Q : PotAt h n a b t) {xs : List α} {pool : P} (hp : seqOf h pool = some (xs.map f)) (lx : xs.length ≤ 1000) {many : Nat} (lm : many ≤ xs.length) (tl : t + (many : Nat) ≤ 1000000) :
    ∃ (ys rest : List α) (a' t' : Int), (ys ++ rest).Perm xs ∧ ys.length = many ∧ PotOk a' b ∧ 0 ≤ t' ∧ t' ≤ t + (many : Nat) ∧ m__law_some [.obj n, pool, .int (many : Nat)] h = .ok (.obj (h.length + 1)) (h.set n (potO a' b t') ++ [O.lst (rest.map f), .lst (ys.map f)]) := by
  have nl := (List.getElem?_eq_some_iff.mp Q.at_).1
  have step := fun (i0 : _) => for_run (xs := (rgS 0 (many : Int)).xs) (t := [some (.obj n), some pool, some (.int (many : Nat)), some (.obj h.length), some (.obj (h.length + 1)), none]) (h := h ++ [O.lst (xs.map f), .lst []]) (S := rgS 0 (many : Int)) (h0 := h ++ [O.lst (xs.map f), .lst []]) (g := gN 5) (b := sE (eBM "list" mAppend (eV 4) (lC (eBM "list" mPop (eV 3) (lC (eCall 2 m__law_take (lC (eV 0) (lC (eCB fLen (lC (eV 3) lN)) lN))) lN)) lN)))
    (fun ps T H => ∃ (ys rest : List α) (a' t' : Int) (x : Option P), (ys ++ rest).Perm xs ∧ ys.length + ps.length = many ∧ PotOk a' b ∧ 0 ≤ t' ∧ t' ≤ t + (ys.length : Nat) ∧ H = h.set n (potO a' b t') ++ [O.lst (rest.map f), .lst (ys.map f)] ∧ T = [some (.obj n), some pool, some (.int (many : Nat)), some (.obj h.length), some (.obj (h.length + 1)), x])
    (fun _ _ _ _ => by unfold Src.still; rw [show (rgS 0 (many : Int)).w = [] from rfl]; simp)
    (fun p ps T H ⟨ys, rest, a', t', x, pm, ln, ok, t0, t1, eH, eT⟩ => by
      subst eH eT
      have ll := pm.length_eq
      rw [List.length_append] at ll
      have ln2 : ys.length + (ps.length + 1) = many := ln
      have at1 : (h.set n (potO a' b t') ++ [O.lst (rest.map f), .lst (ys.map f)])[n]? = some (.lst [.int a', .int b, .int t']) := by
        rw [List.getElem?_append_left (by simpa using nl), List.getElem?_set_self nl]
        rfl
      have Q1 : PotAt (h.set n (potO a' b t') ++ [O.lst (rest.map f), .lst (ys.map f)]) n a' b t' := ⟨ok, at1, t0, by omega⟩
      obtain ⟨d, a2, t2, dl, ok2, t20, t21, et⟩ := p_take Q1 (by omega) (u := rest.length) (by omega) (Nat.lt_of_le_of_lt (show rest.length ≤ 1000 by omega) (by decide))
      have hs : ∀ o, (h.set n (potO a' b t') ++ [O.lst (rest.map f), .lst (ys.map f)]).set n o = h.set n o ++ [O.lst (rest.map f), .lst (ys.map f)] := fun o => by
        rw [List.set_append_left _ _ (by simpa using nl), List.set_set]
      rw [hs] at et
      have lr : ∀ o (r1 r2 : List P), (h.set n o ++ [O.lst r1, .lst r2])[h.length]? = some (.lst r1) := fun o r1 r2 => by simp
      have lf : ∀ o (r1 r2 : List P), (h.set n o ++ [O.lst r1, .lst r2])[h.length + 1]? = some (.lst r2) := fun o r1 r2 => by simp
      have pp := pop_at (d := d) (p := f rest[d]) (lr (potO a2 b t2) (rest.map f) (ys.map f)) (by rw [List.getElem?_map, List.getElem?_eq_getElem dl]; rfl) (by rw [List.length_map]; omega)
      have s1 : (h.set n (potO a2 b t2) ++ [O.lst (rest.map f), .lst (ys.map f)]).set h.length (.lst ((rest.map f).eraseIdx d)) = h.set n (potO a2 b t2) ++ [O.lst ((rest.map f).eraseIdx d), .lst (ys.map f)] := by
        rw [List.set_append_right _ _ (by simp)]
        simp
      rw [s1] at pp
      have ap := append_at (y := f rest[d]) (lf (potO a2 b t2) ((rest.map f).eraseIdx d) (ys.map f)) (by rw [List.length_map]; omega)
      have s2 : (h.set n (potO a2 b t2) ++ [O.lst ((rest.map f).eraseIdx d), .lst (ys.map f)]).set (h.length + 1) (.lst (ys.map f ++ [f rest[d]])) = h.set n (potO a2 b t2) ++ [O.lst ((rest.map f).eraseIdx d), .lst (ys.map f ++ [f rest[d]])] := by
        rw [List.set_append_right _ _ (by simp)]
        simp
      rw [s2] at ap
      have ln1 := len_lst (lr (potO a' b t') (rest.map f) (ys.map f))
      rw [List.length_map] at ln1
      have ty1 := isTy_at (lf (potO a' b t') (rest.map f) (ys.map f))
      have ty2 := isTy_at (lr (potO a' b t') (rest.map f) (ys.map f))
      refine ⟨_, _, [some (.obj n), some pool, some (.int (many : Nat)), some (.obj h.length), some (.obj (h.length + 1)), some p], h.set n (potO a2 b t2) ++ [O.lst ((rest.map f).eraseIdx d), .lst (ys.map f ++ [f rest[d]])], rfl, .inl ?_, ys ++ [rest[d]], rest.eraseIdx d, a2, t2, some p, ?_, ?_, ok2, t20, ?_, ?_, rfl⟩
      · show sE _ [some (.obj n), some pool, some (.int (many : Nat)), some (.obj h.length), some (.obj (h.length + 1)), some p] _ = _
        simp only [sE_at, eBM_at, lC_at, lN_at, eCall_at, eCB_at, eV_some (i := 4) (t := [some (.obj n), some pool, some (.int (many : Nat)), some (.obj h.length), some (.obj (h.length + 1)), some p]) rfl, eV_some (i := 3) (t := [some (.obj n), some pool, some (.int (many : Nat)), some (.obj h.length), some (.obj (h.length + 1)), some p]) rfl, eV_some (i := 0) (t := [some (.obj n), some pool, some (.int (many : Nat)), some (.obj h.length), some (.obj (h.length + 1)), some p]) rfl, Out.bind_ok, ty1, ty2, if_true, ln1, List.length_cons, List.length_nil, et, pp, ap, Out.toS_ok]
      · refine List.Perm.trans ?_ pm
        rw [List.append_assoc]
        refine List.Perm.append_left _ ?_
        show (rest[d] :: rest.eraseIdx d).Perm rest
        exact perm_erase rest d dl
      · rw [List.length_append]
        simp only [List.length_cons, List.length_nil]
        omega
      · rw [List.length_append]
        simp only [List.length_cons, List.length_nil]
        omega
      · rw [List.map_append, map_erase]
        rfl) i0
  obtain ⟨T2, H2, ⟨ys, rest, a', t', x, pm, ln, ok, t0, t1, eH, eT⟩, ef⟩ := step ⟨[], xs, a, t, none, List.Perm.refl _, by show _ + ((List.range _).map _).length = _; rw [List.length_map, List.length_range]; simp, Q.toPotOk, Q.t0, by simp, by
      have z : h.set n (potO a b t) = h := by
        have y := Q.at_
        obtain ⟨l, y⟩ := List.getElem?_eq_some_iff.mp y
        rw [show potO a b t = h[n] from y.symm, List.set_getElem_self]
      rw [z]
      rfl, rfl⟩
  refine ⟨ys, rest, a', t', pm, by simpa using ln, ok, t0, by simp at ln; omega, ?_⟩
  subst eH eT
  have bd : b__law_some [some (.obj n), some pool, some (.int (many : Nat)), none, none, none] h = .rt (.obj (h.length + 1)) (h.set n (potO a' b t') ++ [O.lst (rest.map f), .lst (ys.map f)]) := by
    have fl : fList true [pool] h = .ok (.obj h.length) (h ++ [O.lst (xs.map f)]) := by
      show (match seqOf h pool with
        | some xs => mkL true xs h
        | none => _) = _
      rw [hp]
      rfl
    have rg : srcR1 [.int (many : Nat)] (h ++ [O.lst (xs.map f), .lst []]) = .ok (rgS 0 (many : Int)) (h ++ [O.lst (xs.map f), .lst []]) := by
      show (if fitI (many : Int) = true then Out.ok (rgS 0 (many : Int)) (h ++ [O.lst (xs.map f), .lst []]) else .bad) = _
      rw [if_pos (by unfold fitI; rw [decide_eq_true (by omega), decide_eq_true (by omega)]; rfl)]
    unfold b__law_some
    have v1 : eV 1 [some (.obj n), some pool, some (.int (many : Nat)), none, none, none] h = .ok pool h := eV_some rfl
    have v2 : ∀ hh, eV 2 [some (.obj n), some pool, some (.int (many : Nat)), some (.obj h.length), some (.obj (h.length + 1)), none] hh = .ok (.int (many : Nat)) hh := fun hh => eV_some rfl
    have v4 : ∀ hh y, eV 4 [some (.obj n), some pool, some (.int (many : Nat)), some (.obj h.length), some (.obj (h.length + 1)), y] hh = .ok (.obj (h.length + 1)) hh := fun hh y => eV_some rfl
    have sp : sPar 3 4 (lC (eCB (fList true) (lC (eV 1) lN)) (lC (eLst true lN) lN)) [some (.obj n), some pool, some (.int (many : Nat)), none, none, none] h = .nx [some (.obj n), some pool, some (.int (many : Nat)), some (.obj h.length), some (.obj (h.length + 1)), none] (h ++ [O.lst (xs.map f), .lst []]) := by
      rw [sPar_at, lC_at, eCB_at, lC_at, v1]
      simp only [Out.bind_ok, lN_at, fl, lC_at, eLst_at]
      rw [if_pos (show small ([] : List P).length = true from rfl), mkL_true]
      show OutS.nx [some (.obj n), some pool, some (.int (many : Nat)), some (.obj h.length), some (.obj (h ++ [O.lst (xs.map f)]).length), none] (h ++ [O.lst (xs.map f)] ++ [O.lst []]) = _
      rw [List.length_append, List.append_assoc]
      rfl
    rw [sQ_at, sp]
    rw [OutS.seq_nx, sQ_at, sFor_at]
    rw [show iRg1 (lC (eV 2) lN) [some (.obj n), some pool, some (.int (many : Nat)), some (.obj h.length), some (.obj (h.length + 1)), none] (h ++ [O.lst (xs.map f), .lst []]) = .ok (rgS 0 (many : Int)) (h ++ [O.lst (xs.map f), .lst []]) by
      rw [iRg1_at, lC_at, v2, Out.bind_ok, lN_at, Out.bind_ok, Out.bind_ok, rg]]
    rw [Out.toS_ok, ef, OutS.seq_nx, sR_at, v4]
    rfl
  show mkFn _ b__law_some _ h = _
  unfold mkFn
  have e : ([P.obj n, pool, .int (many : Nat)].map some ++ List.replicate (N__law_some.length - [P.obj n, pool, .int (many : Nat)].length) none) = [some (.obj n), some pool, some (.int (many : Nat)), none, none, none] := rfl
  rw [e, bd]
  show Out.ok (P.obj (h.length + 1)) (trim h (.obj (h.length + 1)) _) = _
  unfold trim
  rw [if_neg]
  rintro ⟨z, _⟩
  have z : decide (h.length + 1 < h.length) = true := z
  have := of_decide_eq_true z
  omega
end
end K13


/-! the story's net -/
namespace K13
open PySem PySem.Spec PyProof.Rows L2 AM TL
noncomputable section
def pool : List Str := ["a", "hook", "moon", "zz", "ring", "peg", "k", "lamp"]
def plain (x : Str) : Bool := nameOk x && wordy x && PyData.strOk x && decide (x.length ≤ 6) && (x.cps.toList.all fun c => decide (c < 16 ^ 8))
theorem pool_plain : ∀ x ∈ pool, plain x = true := by decide +kernel
structure Four (p q r s : Str) : Prop where
  hp : plain p = true
  hq : plain q = true
  hr : plain r = true
  hs : plain s = true
  pq : p ≠ q
  pr : p ≠ r
  ps : p ≠ s
  qr : q ≠ r
  qs : q ≠ s
  rs : r ≠ s
def rowsOf (p q r s : Str) : List (List Str) := [["peg", p, "0", "0"], ["peg", q, "6", "0"], ["ring", r, "3", "0", "0", "-2"], ["ring", s, "3", "-4", "1/2", "0"], ["cord", p, r], ["cord", r, q], ["cord", s, r]]
def textOf (p q r s : Str) : Str := Txt.join "\n" (([("net" : Str), "2"] :: rowsOf p q r s).map (Txt.join " "))
def draftOf (p q r s : Str) : DraftR := ⟨[(p, [(0, 1), (0, 1)]), (q, [(6, 1), (0, 1)])], [(r, ([(3, 1), (0, 1)], [(0, 1), (-2, 1)])), (s, ([(3, 1), (-4, 1)], [(1, 2), (0, 1)]))], [(p, r), (r, q), (s, r)]⟩
def netOf (p q r s : Str) : NetR := ⟨textOf p q r s, 2, (draftOf p q r s).pegs, (draftOf p q r s).rings, (draftOf p q r s).cords⟩
theorem word1 {w : Str} {i : Int} (l : w.length ≤ 640) (e : PySem.intText? w = some i) (f : figsOk (figs w) = true) (z : zeroBad w = false) (ns : (tl w).contains 47 = false) : WordIs w (i, 1) := by
  refine p_ratio_in1 (a := w) (by omega) ?_ (whIs_of l e f z)
  have z := split_join (y := ("/" : Str)) (s := 47) (S := []) (by decide +kernel) (by decide +kernel) (parts := [w]) (by simp) (fun p hp => by
    rw [List.mem_singleton.mp hp]
    intro m
    rw [List.contains_iff_mem.mpr m] at ns
    cases ns)
  rw [join_eq] at z
  exact z
theorem w_0 : WordIs "0" (0, 1) := word1 (by decide +kernel) (by decide +kernel) (by decide +kernel) (by decide +kernel) (by decide +kernel)
theorem w_6 : WordIs "6" (6, 1) := word1 (by decide +kernel) (by decide +kernel) (by decide +kernel) (by decide +kernel) (by decide +kernel)
theorem w_3 : WordIs "3" (3, 1) := word1 (by decide +kernel) (by decide +kernel) (by decide +kernel) (by decide +kernel) (by decide +kernel)
theorem w_m2 : WordIs "-2" (-2, 1) := word1 (by decide +kernel) (by decide +kernel) (by decide +kernel) (by decide +kernel) (by decide +kernel)
theorem w_m4 : WordIs "-4" (-4, 1) := word1 (by decide +kernel) (by decide +kernel) (by decide +kernel) (by decide +kernel) (by decide +kernel)
theorem w_half : WordIs "1/2" (1, 2) := by
  refine p_ratio_in2 (a := "1") (b := "2") (n := 2) (by decide +kernel) ?_ (whIs_of (by decide +kernel) (by decide +kernel) (by decide +kernel) (by decide +kernel)) (whIs_of (by decide +kernel) (by decide +kernel) (by decide +kernel) (by decide +kernel)) ⟨by decide, by decide, by decide, by decide⟩ (by decide)
  have z := split_join (y := ("/" : Str)) (s := 47) (S := []) (by decide +kernel) (by decide +kernel) (parts := ["1", "2"]) (by simp) (fun p hp => by
    have c : p = "1" ∨ p = "2" := by simpa using hp
    rcases c with rfl | rfl <;> decide +kernel)
  have e : Txt.join ("/" : Str) ["1", "2"] = "1/2" := by
    rw [join_eq]
    decide +kernel
  rw [e] at z
  exact z
theorem num_ok : ∀ x ∈ ([(0, 1), (6, 1), (3, 1), (-2, 1), (-4, 1), (1, 2)] : List Fr), NumOk x := by
  intro x hx
  have c : x = (0, 1) ∨ x = (6, 1) ∨ x = (3, 1) ∨ x = (-2, 1) ∨ x = (-4, 1) ∨ x = (1, 2) := by simpa using hx
  rcases c with rfl | rfl | rfl | rfl | rfl | rfl <;> exact ⟨⟨by decide, by decide, by decide, by decide⟩, by decide, by decide⟩
section
variable {p q r s : Str}
theorem plain_name {x : Str} (h : plain x = true) : nameOk x = true := by
  unfold plain at h
  simp only [Bool.and_eq_true] at h
  exact h.1.1.1.1
theorem plain_wordy {x : Str} (h : plain x = true) : wordy x = true := by
  unfold plain at h
  simp only [Bool.and_eq_true] at h
  exact h.1.1.1.2
theorem plain_str {x : Str} (h : plain x = true) : PyData.strOk x = true := by
  unfold plain at h
  simp only [Bool.and_eq_true] at h
  exact h.1.1.2
theorem plain_len {x : Str} (h : plain x = true) : x.length ≤ 6 := by
  unfold plain at h
  simp only [Bool.and_eq_true] at h
  exact of_decide_eq_true h.1.2
theorem plain_leaf {x : Str} (h : plain x = true) : (x.cps.toList.all fun c => decide (c < 16 ^ 8)) = true := by
  unfold plain at h
  simp only [Bool.and_eq_true] at h
  exact h.2
theorem plain_pair {x y : Str} (hx : plain x = true) (hy : plain y = true) : strsOk (x, y) = true := by
  unfold strsOk
  rw [plain_str hx, plain_str hy]
  rfl
theorem puts (F : Four p q r s) : Puts 2 ⟨[], [], []⟩ (rowsOf p q r s) (draftOf p q r s) := by
  have qp := F.pq.symm
  have rp := F.pr.symm
  have sp := F.ps.symm
  have rq := F.qr.symm
  have sq := F.qs.symm
  have sr := F.rs.symm
  have h1 := F.pq
  have h2 := F.pr
  have h3 := F.ps
  have h4 := F.qr
  have h5 := F.qs
  have h6 := F.rs
  have num2 : ∀ a b : Fr, a ∈ ([(0, 1), (6, 1), (3, 1), (-2, 1), (-4, 1), (1, 2)] : List Fr) → b ∈ ([(0, 1), (6, 1), (3, 1), (-2, 1), (-4, 1), (1, 2)] : List Fr) → ∀ x ∈ [a, b], NumOk x := fun a b ha hb x hx => by
    have c : x = a ∨ x = b := by simpa using hx
    rcases c with rfl | rfl
    · exact num_ok _ ha
    · exact num_ok _ hb
  have num4 : ∀ a b c d : Fr, a ∈ ([(0, 1), (6, 1), (3, 1), (-2, 1), (-4, 1), (1, 2)] : List Fr) → b ∈ ([(0, 1), (6, 1), (3, 1), (-2, 1), (-4, 1), (1, 2)] : List Fr) → c ∈ ([(0, 1), (6, 1), (3, 1), (-2, 1), (-4, 1), (1, 2)] : List Fr) → d ∈ ([(0, 1), (6, 1), (3, 1), (-2, 1), (-4, 1), (1, 2)] : List Fr) → ∀ x ∈ [a, b] ++ [c, d], NumOk x := fun a b c d ha hb hc hd x hx => by
    rcases List.mem_append.mp hx with y | y
    · exact num2 a b ha hb x y
    · exact num2 c d hc hd x y
  have pl : ∀ c, NetR.place ⟨"", 2, [(p, [(0, 1), (0, 1)]), (q, [(6, 1), (0, 1)])], [(r, ([(3, 1), (0, 1)], [(0, 1), (-2, 1)])), (s, ([(3, 1), (-4, 1)], [(1, 2), (0, 1)]))], c⟩ p = some [(0, 1), (0, 1)] := fun c => by
    simp [NetR.place, List.lookup]
  have bf : ∀ {x y : Str}, x ≠ y → (x == y) = false := fun e => beq_eq_false_iff_ne.mpr e
  have ql : ∀ c, NetR.place ⟨"", 2, [(p, [(0, 1), (0, 1)]), (q, [(6, 1), (0, 1)])], [(r, ([(3, 1), (0, 1)], [(0, 1), (-2, 1)])), (s, ([(3, 1), (-4, 1)], [(1, 2), (0, 1)]))], c⟩ q = some [(6, 1), (0, 1)] := fun c => by
    simp [NetR.place, List.lookup, bf qp]
  have rl : ∀ c, NetR.place ⟨"", 2, [(p, [(0, 1), (0, 1)]), (q, [(6, 1), (0, 1)])], [(r, ([(3, 1), (0, 1)], [(0, 1), (-2, 1)])), (s, ([(3, 1), (-4, 1)], [(1, 2), (0, 1)]))], c⟩ r = some [(3, 1), (0, 1)] := fun c => by
    simp [NetR.place, List.lookup, bf rp, bf rq]
  have sl : ∀ c, NetR.place ⟨"", 2, [(p, [(0, 1), (0, 1)]), (q, [(6, 1), (0, 1)])], [(r, ([(3, 1), (0, 1)], [(0, 1), (-2, 1)])), (s, ([(3, 1), (-4, 1)], [(1, 2), (0, 1)]))], c⟩ s = some [(3, 1), (-4, 1)] := fun c => by
    simp [NetR.place, List.lookup, bf sp, bf sq, bf sr]
  refine .cons (.peg (plain_name F.hp) (by simp) (.cons w_0 (.cons w_0 .nil)) (num2 _ _ (by decide) (by decide)) rfl (by simp)) ?_
  refine .cons (.peg (plain_name F.hq) (by simp [qp]) (.cons w_6 (.cons w_0 .nil)) (num2 _ _ (by decide) (by decide)) rfl (by simp)) ?_
  refine .cons (.ring (xs := [(3, 1), (0, 1)]) (ys := [(0, 1), (-2, 1)]) (plain_name F.hr) (by simp [rp, rq]) (by simp) (by simp) (.cons w_3 (.cons w_0 (.cons w_0 (.cons w_m2 .nil)))) (num4 _ _ _ _ (by decide) (by decide) (by decide) (by decide)) rfl rfl (by simp)) ?_
  refine .cons (.ring (xs := [(3, 1), (-4, 1)]) (ys := [(1, 2), (0, 1)]) (plain_name F.hs) (by simp [sp, sq]) (by simp [sr]) (by simp) (.cons w_3 (.cons w_m4 (.cons w_half (.cons w_0 .nil)))) (num4 _ _ _ _ (by decide) (by decide) (by decide) (by decide)) rfl rfl (by simp)) ?_
  have o1 := plain_pair F.hp F.hr
  have o2 := plain_pair F.hr F.hq
  have o3 := plain_pair F.hs F.hr
  refine .cons (.cord (pl _) (rl _) (by decide) (by simp) (by simp) (by simp) (by simp) o1 (by simp)) ?_
  refine .cons (.cord (rl _) (ql _) (by decide) (by simp) (by simp [rp]) (by simp [qp]) (by simp) o2 (by simp [o1])) ?_
  refine .cons (.cord (sl _) (rl _) (by decide) (by simp) (by simp [sp, sr]) (by simp [rp, sq]) (by simp) o3 (by simp [o1, o2])) ?_
  exact .nil
theorem wordy_lits : ∀ x ∈ (["net", "2", "peg", "ring", "cord", "0", "6", "3", "-2", "-4", "1/2"] : List Str), wordy x = true ∧ x.length ≤ 6 := by decide +kernel
theorem rows_wordy (F : Four p q r s) : ∀ ws ∈ ([("net" : Str), "2"] :: rowsOf p q r s), ∀ w ∈ ws, wordy w = true ∧ w.length ≤ 6 := by
  have lit := wordy_lits
  have a1 : wordy p = true ∧ p.length ≤ 6 := ⟨plain_wordy F.hp, plain_len F.hp⟩
  have a2 : wordy q = true ∧ q.length ≤ 6 := ⟨plain_wordy F.hq, plain_len F.hq⟩
  have a3 : wordy r = true ∧ r.length ≤ 6 := ⟨plain_wordy F.hr, plain_len F.hr⟩
  have a4 : wordy s = true ∧ s.length ≤ 6 := ⟨plain_wordy F.hs, plain_len F.hs⟩
  simp only [List.forall_mem_cons, List.forall_mem_nil, and_true, rowsOf] at lit ⊢
  simp only [lit, a1, a2, a3, a4, and_self, true_and]
  simp
theorem text_of (F : Four p q r s) : TextOf (textOf p q r s) 2 "2" (rowsOf p q r s) := by
  have w := rows_wordy F
  have ll : ∀ x ∈ (([("net" : Str), "2"] :: rowsOf p q r s).map (Txt.join " ")), x.length ≤ 100 := fun x hx => by
    obtain ⟨ws, hm, rfl⟩ := List.mem_map.mp hx
    have z := join_len " " 6 fun y hy => (w ws hm y hy).2
    have n : ws.length ≤ 6 := by
      have c : ∀ ws ∈ ([("net" : Str), "2"] :: rowsOf p q r s), ws.length ≤ 6 := by
        simp [rowsOf]
      exact c ws hm
    have b : (" " : Str).length = 1 := by decide +kernel
    rw [b] at z
    have : ws.length * (6 + 1) ≤ 6 * (6 + 1) := Nat.mul_le_mul_right _ n
    omega
  have tlen := join_len "\n" 100 ll
  have b : ("\n" : Str).length = 1 := by decide +kernel
  have n8 : (([("net" : Str), "2"] :: rowsOf p q r s).map (Txt.join " ")).length = 8 := rfl
  rw [b, n8] at tlen
  have tl2 : (textOf p q r s).length ≤ 8 * (100 + 1) := tlen
  refine ⟨by omega, split_rows (by simp) ?_ fun ws hm y hy => (w ws hm y hy).1, ?_, by simp [rowsOf], whIs_of (by decide +kernel) (by decide +kernel) (by decide +kernel) (by decide +kernel), by omega, by omega⟩
  · simp [rowsOf]
  · intro x hx
    have e : Txt.split (textOf p q r s) "\n" = ([("net" : Str), "2"] :: rowsOf p q r s).map (Txt.join " ") := split_lines (by simp) fun ws hm y hy => (w ws hm y hy).1
    rw [e] at hx
    have := ll x hx
    omega
theorem net_ok (F : Four p q r s) : NetOk (netOf p q r s) := by
  have h1 := F.pq
  have h2 := F.pr
  have h3 := F.ps
  have h4 := F.qr
  have h5 := F.qs
  have h6 := F.rs
  have fo : ∀ a b : Fr, a ∈ ([(0, 1), (6, 1), (3, 1), (-2, 1), (-4, 1), (1, 2)] : List Fr) → b ∈ ([(0, 1), (6, 1), (3, 1), (-2, 1), (-4, 1), (1, 2)] : List Fr) → RowOk 10 [a, b] ∧ [a, b].length = 2 := fun a b ha hb => ⟨fun x hx => by
    have c : x = a ∨ x = b := by simpa using hx
    rcases c with rfl | rfl
    · exact (num_ok _ ha).1
    · exact (num_ok _ hb).1, rfl⟩
  refine ⟨by show 1 ≤ 2; decide, by show 2 ≤ 3; decide, ?_, by simp [netOf, draftOf], by simp [netOf, draftOf], by simp [netOf, draftOf], ?_, ?_, ?_⟩
  · simp [netOf, draftOf, NetR.names, NetR.pegNames, NetR.ringNames, h1, h2, h3, h4, h5, h6]
  · intro z hz
    have c : z = (p, [(0, 1), (0, 1)]) ∨ z = (q, [(6, 1), (0, 1)]) := by simpa [netOf, draftOf] using hz
    rcases c with rfl | rfl
    · exact fo _ _ (by decide) (by decide)
    · exact fo _ _ (by decide) (by decide)
  · intro z hz
    have c : z = (r, ([(3, 1), (0, 1)], [(0, 1), (-2, 1)])) ∨ z = (s, ([(3, 1), (-4, 1)], [(1, 2), (0, 1)])) := by simpa [netOf, draftOf] using hz
    rcases c with rfl | rfl
    · exact ⟨fo _ _ (by decide) (by decide), fo _ _ (by decide) (by decide)⟩
    · exact ⟨fo _ _ (by decide) (by decide), fo _ _ (by decide) (by decide)⟩
  · intro c hc
    have z : c = (p, r) ∨ c = (r, q) ∨ c = (s, r) := by simpa [netOf, draftOf] using hc
    rcases z with rfl | rfl | rfl <;> simp [netOf, draftOf, NetR.names, NetR.pegNames, NetR.ringNames]
end
end
end K13


/-! what is told of the story's net by hand -/
namespace K13
open PySem PySem.Spec PyProof.Rows L2 AM TL
noncomputable section
section
variable {p q r s : Str} {h : AH} {n a : Nat}
theorem bf {x y : Str} (e : x ≠ y) : (x == y) = false := beq_eq_false_iff_ne.mpr e
theorem in_p : p ∈ (netOf p q r s).names := by simp [netOf, draftOf, NetR.names, NetR.pegNames, NetR.ringNames]
theorem in_q : q ∈ (netOf p q r s).names := by simp [netOf, draftOf, NetR.names, NetR.pegNames, NetR.ringNames]
theorem in_r : r ∈ (netOf p q r s).names := by simp [netOf, draftOf, NetR.names, NetR.pegNames, NetR.ringNames]
theorem in_s : s ∈ (netOf p q r s).names := by simp [netOf, draftOf, NetR.names, NetR.pegNames, NetR.ringNames]
theorem ring_r : r ∈ (netOf p q r s).ringNames := by simp [netOf, draftOf, NetR.ringNames]
theorem ring_s : s ∈ (netOf p q r s).ringNames := by simp [netOf, draftOf, NetR.ringNames]
theorem ring_p (F : Four p q r s) : p ∉ (netOf p q r s).ringNames := by
  have := F.pr
  have := F.ps
  simp [netOf, draftOf, NetR.ringNames, *]
theorem ring_q (F : Four p q r s) : q ∉ (netOf p q r s).ringNames := by
  have := F.qr
  have := F.qs
  simp [netOf, draftOf, NetR.ringNames, *]
theorem place_p : (netOf p q r s).placeD p = [(0, 1), (0, 1)] := by
  simp [netOf, draftOf, NetR.placeD, NetR.place, List.lookup]
theorem place_q (F : Four p q r s) : (netOf p q r s).placeD q = [(6, 1), (0, 1)] := by
  simp [netOf, draftOf, NetR.placeD, NetR.place, List.lookup, bf F.pq.symm]
theorem place_r (F : Four p q r s) : (netOf p q r s).placeD r = [(3, 1), (0, 1)] := by
  simp [netOf, draftOf, NetR.placeD, NetR.place, List.lookup, bf F.pr.symm, bf F.qr.symm]
theorem place_s (F : Four p q r s) : (netOf p q r s).placeD s = [(3, 1), (-4, 1)] := by
  simp [netOf, draftOf, NetR.placeD, NetR.place, List.lookup, bf F.ps.symm, bf F.qs.symm, bf F.rs.symm]
theorem weight_r : (netOf p q r s).weightD r = [(0, 1), (-2, 1)] := by
  simp [netOf, draftOf, NetR.weightD, List.lookup]
theorem weight_s (F : Four p q r s) : (netOf p q r s).weightD s = [(1, 2), (0, 1)] := by
  simp [netOf, draftOf, NetR.weightD, List.lookup, bf F.rs.symm]
theorem weight_q (F : Four p q r s) : (netOf p q r s).weightD q = [(0, 1), (0, 1)] := by
  simp [netOf, draftOf, NetR.weightD, List.lookup, bf F.qr, bf F.qs]
theorem sq_0 (F : Four p q r s) : (netOf p q r s).sqD (p, r) = (9, 1) := by
  unfold NetR.sqD NetR.wayD
  rw [place_p, place_r F]
  decide +kernel
theorem sq_1 (F : Four p q r s) : (netOf p q r s).sqD (r, q) = (9, 1) := by
  unfold NetR.sqD NetR.wayD
  rw [place_r F, place_q F]
  decide +kernel
theorem sq_2 (F : Four p q r s) : (netOf p q r s).sqD (s, r) = (16, 1) := by
  unfold NetR.sqD NetR.wayD
  rw [place_r F, place_s F]
  decide +kernel
theorem at_r (F : Four p q r s) : (netOf p q r s).cordsAt r = [0, 1, 2] := by
  simp [netOf, draftOf, NetR.cordsAt, enumF]
theorem at_s (F : Four p q r s) : (netOf p q r s).cordsAt s = [2] := by
  simp [netOf, draftOf, NetR.cordsAt, enumF, F.ps.symm, F.rs.symm, F.qs.symm]
theorem at_p (F : Four p q r s) : (netOf p q r s).cordsAt p = [0] := by
  simp [netOf, draftOf, NetR.cordsAt, enumF, F.pr, F.pq, F.ps]
theorem at_q (F : Four p q r s) : (netOf p q r s).cordsAt q = [1] := by
  simp [netOf, draftOf, NetR.cordsAt, enumF, F.pq.symm, F.qr, F.qs]
theorem int_short : ∀ i ∈ ([-7, -4, -3, -2, 0, 1, 2, 3, 4, 5, 6, 8, 9, 16, 17] : List Int), (PyData.shown (.int i)).length ≤ 8 := by decide +kernel
def l5 (p q r s : Str) : List P := [.tup [.str p, .str q], .tup [.str r, .str s], .tup [.tup [.str p, .str r], .tup [.str r, .str q], .tup [.str s, .str r]], .int 2, .int 2]
def l3 : List P := [rowP [(3, 1), (-4, 1)], rowP [(1, 2), (0, 1)], rowP [(0, 1), (0, 1)]]
def l6 : List P := [ratP (9, 1), ratP (9, 1), ratP (16, 1), .tup [.int 0, .int 1, .int 2], .tup [.int 2], .tup [.int 0]]
def l14 (p q r s : Str) : List P := l5 p q r s ++ l3 ++ l6
def d5 (p q r s : Str) : List PyData := [.tuple [.str p, .str q], .tuple [.str r, .str s], .tuple [.tuple [.str p, .str r], .tuple [.str r, .str q], .tuple [.str s, .str r]]]
def d11 : List PyData := [.int 2, .int 2, rowD [(3, 1), (-4, 1)], rowD [(1, 2), (0, 1)], rowD [(0, 1), (0, 1)], ratD (9, 1), ratD (9, 1), ratD (16, 1), .tuple [.int 0, .int 1, .int 2], .tuple [.int 2], .tuple [.int 0]]
theorem leaves_app (B : Nat) : ∀ xs ys : List PyData, PyData.leavesShortAll B (xs ++ ys) = (PyData.leavesShortAll B xs && PyData.leavesShortAll B ys)
  | [], ys => rfl
  | x :: xs, ys => by
    show (PyData.leavesShort B x && PyData.leavesShortAll B (xs ++ ys)) = (PyData.leavesShort B x && PyData.leavesShortAll B xs && PyData.leavesShortAll B ys)
    rw [leaves_app B xs ys, Bool.and_assoc]
theorem bulk_app : ∀ xs ys : List PyData, PyData.bulkAll (xs ++ ys) = PyData.bulkAll xs + PyData.bulkAll ys
  | [], ys => by show _ = 0 + _; rw [Nat.zero_add]; rfl
  | x :: xs, ys => by
    show PyData.bulk x + 1 + PyData.bulkAll (xs ++ ys) = PyData.bulk x + 1 + PyData.bulkAll xs + PyData.bulkAll ys
    rw [bulk_app xs ys]
    omega
theorem shown14 (F : Four p q r s) : shownOk (.list (d5 p q r s ++ d11)) = true := by
  refine shown_ok 8 (by decide) ?_ ?_ ?_ ?_ ?_
  · rfl
  · rfl
  · show 3 ≤ 60
    decide
  · show PyData.leavesShortAll 8 (d5 p q r s ++ d11) = true
    rw [leaves_app, show PyData.leavesShortAll 8 d11 = true by decide +kernel]
    have e1 := plain_leaf F.hp
    have e2 := plain_leaf F.hq
    have e3 := plain_leaf F.hr
    have e4 := plain_leaf F.hs
    simp only [d5, PyData.leavesShort, PyData.leavesShortAll, e1, e2, e3, e4, Bool.and_true]
  · show (8 + 2) * PyData.bulkAll (d5 p q r s ++ d11) + 8 ≤ _
    rw [bulk_app]
    have b : PyData.bulkAll d11 ≤ 100 := by decide +kernel
    have e1 : p.cps.size ≤ 6 := plain_len F.hp
    have e2 : q.cps.size ≤ 6 := plain_len F.hq
    have e3 : r.cps.size ≤ 6 := plain_len F.hr
    have e4 : s.cps.size ≤ 6 := plain_len F.hs
    simp only [d5, PyData.bulk, PyData.bulkAll]
    omega
theorem names_right (F : Four p q r s) (D : NetAt h n (netOf p q r s)) (e : h[a]? = some (.lst [.str p, .str q, .str r, .str s])) : m__law_are_names_right [.obj n, .obj a] h = .ok (.bl true) h := by
  have V := net_ok F
  refine fn_rt (j := [.lst (l14 p q r s), .lst (l14 p q r s)]) ?_ rfl
  unfold b__law_are_names_right
  show (sQ _ _) [some (.obj n), some (.obj a), none, none, none, none, none, none] h = _
  refine (sq_nx (t' := [some (.obj n), some (.obj a), some (.str p), some (.str q), some (.str r), some (.str s), none, none]) (h' := h) ?_).trans ?_
  · simp [gU_obj e]
  refine (sq_nx (t' := [some (.obj n), some (.obj a), some (.str p), some (.str q), some (.str r), some (.str s), some (.obj h.length), none]) (h' := h ++ [.lst (l5 p q r s)]) ?_).trans ?_
  · have s1 := prop_at (i := 0) (t := [some (.obj n), some (.obj a), some (.str p), some (.str q), some (.str r), some (.str s), none, none]) D rfl (p_pegs D)
    have s2 := prop_at (i := 0) (t := [some (.obj n), some (.obj a), some (.str p), some (.str q), some (.str r), some (.str s), none, none]) D rfl (p_rings D)
    have s3 := prop_at (i := 0) (t := [some (.obj n), some (.obj a), some (.str p), some (.str q), some (.str r), some (.str s), none, none]) D rfl (p_cords D)
    have s4 := prop_at (i := 0) (t := [some (.obj n), some (.obj a), some (.str p), some (.str q), some (.str r), some (.str s), none, none]) D rfl (p_coords D)
    have s5 := net_len D (by show 2 < 1000; decide)
    simp [s1, s2, s3, s4, s5]
    rfl
  refine (sq_nx (t' := [some (.obj n), some (.obj a), some (.str p), some (.str q), some (.str r), some (.str s), some (.obj h.length), none]) (h' := h ++ [.lst (l5 p q r s ++ l3)]) ?_).trans ?_
  · have D2 : NetAt (h ++ [.lst (l5 p q r s)]) n (netOf p q r s) := D.app
    have s1 := place_of D2 V in_s
    have s2 := (weight_ring D2 V ring_s).1
    have s3 := weight_peg D2 V in_q (ring_q F)
    rw [place_s F] at s1
    rw [weight_s F] at s2
    rw [weight_q F] at s3
    simp [isTy_last, s1, s2, s3]
    rw [extend_last (by simp [l5])]
    rfl
  refine (sq_nx (t' := [some (.obj n), some (.obj a), some (.str p), some (.str q), some (.str r), some (.str s), some (.obj h.length), some (.obj (h.length + 1))]) (h' := h ++ [.lst (l5 p q r s ++ l3), .lst (l5 p q r s ++ l3)]) ?_).trans ?_
  · simp
    rfl
  have D3 : ∀ xs ys : List P, NetAt (h ++ [.lst xs, .lst ys]) n (netOf p q r s) := fun xs ys => D.app
  refine (sq_nx (t' := [some (.obj n), some (.obj a), some (.str p), some (.str q), some (.str r), some (.str s), some (.obj h.length), some (.obj (h.length + 1))]) (h' := h ++ [.lst (l5 p q r s ++ l3 ++ [ratP (9, 1), ratP (9, 1), ratP (16, 1)]), .lst (l5 p q r s ++ l3)]) ?_).trans ?_
  · have s1 := square_of (D3 (l5 p q r s ++ l3) (l5 p q r s ++ l3)) V (k := 0) (c := (p, r)) rfl
    have s2 := square_of (D3 (l5 p q r s ++ l3) (l5 p q r s ++ l3)) V (k := 1) (c := (r, q)) rfl
    have s3 := square_of (D3 (l5 p q r s ++ l3) (l5 p q r s ++ l3)) V (k := 2) (c := (s, r)) rfl
    rw [sq_0 F] at s1
    rw [sq_1 F] at s2
    rw [sq_2 F] at s3
    have s1 : m_square_of [.obj n, .int 0] _ = _ := s1
    have s2 : m_square_of [.obj n, .int 1] _ = _ := s2
    have s3 : m_square_of [.obj n, .int 2] _ = _ := s3
    simp only [sE_at, eBM_at, eLst_at, lC_at, lN_at, eCall_at, eC_at, Out.bind_ok, eV_some (rfl : [some (P.obj n), some (.obj a), some (.str p), some (.str q), some (.str r), some (.str s), some (.obj h.length), some (.obj (h.length + 1))][0]? = _), eV_some (rfl : [some (P.obj n), some (.obj a), some (.str p), some (.str q), some (.str r), some (.str s), some (.obj h.length), some (.obj (h.length + 1))][6]? = _), isTy0, if_true, List.length_cons, List.length_nil, Nat.reduceAdd, s1, s2, s3, mkL_false, small_true (by decide : 3 ≤ 16777216), extend0 (by simp [l5, l3] : (l5 p q r s ++ l3).length + [ratP (9, 1), ratP (9, 1), ratP (16, 1)].length ≤ 16777216), Out.toS_ok]
  refine (sq_nx (t' := [some (.obj n), some (.obj a), some (.str p), some (.str q), some (.str r), some (.str s), some (.obj h.length), some (.obj (h.length + 1))]) (h' := h ++ [.lst (l14 p q r s), .lst (l5 p q r s ++ l3)]) ?_).trans ?_
  · have s1 := cords_at (D3 (l5 p q r s ++ l3 ++ [ratP (9, 1), ratP (9, 1), ratP (16, 1)]) (l5 p q r s ++ l3)) V in_r
    have s2 := cords_at (D3 (l5 p q r s ++ l3 ++ [ratP (9, 1), ratP (9, 1), ratP (16, 1)]) (l5 p q r s ++ l3)) V in_s
    have s3 := cords_at (D3 (l5 p q r s ++ l3 ++ [ratP (9, 1), ratP (9, 1), ratP (16, 1)]) (l5 p q r s ++ l3)) V in_p
    rw [at_r F] at s1
    rw [at_s F] at s2
    rw [at_p F] at s3
    simp only [sE_at, eBM_at, eLst_at, lC_at, lN_at, eCall_at, eC_at, Out.bind_ok, eV_some (rfl : [some (P.obj n), some (.obj a), some (.str p), some (.str q), some (.str r), some (.str s), some (.obj h.length), some (.obj (h.length + 1))][0]? = _), eV_some (rfl : [some (P.obj n), some (.obj a), some (.str p), some (.str q), some (.str r), some (.str s), some (.obj h.length), some (.obj (h.length + 1))][6]? = _), eV_some (rfl : [some (P.obj n), some (.obj a), some (.str p), some (.str q), some (.str r), some (.str s), some (.obj h.length), some (.obj (h.length + 1))][2]? = _), eV_some (rfl : [some (P.obj n), some (.obj a), some (.str p), some (.str q), some (.str r), some (.str s), some (.obj h.length), some (.obj (h.length + 1))][4]? = _), eV_some (rfl : [some (P.obj n), some (.obj a), some (.str p), some (.str q), some (.str r), some (.str s), some (.obj h.length), some (.obj (h.length + 1))][5]? = _), isTy0, if_true, List.length_cons, List.length_nil, Nat.reduceAdd, s1, s2, s3, mkL_false, small_true (by decide : 3 ≤ 16777216), Out.toS_ok]
    rw [extend0 (by simp [l5, l3])]
    rfl
  refine (sq_nx (t' := [some (.obj n), some (.obj a), some (.str p), some (.str q), some (.str r), some (.str s), some (.obj h.length), some (.obj (h.length + 1))]) (h' := h ++ [.lst (l14 p q r s), .lst (l14 p q r s)]) ?_).trans ?_
  · simp [isTy1]
    rw [extend1 (by simp [l5, l3])]
    rfl
  have z1 := repr_dat (dat_obj (h := h ++ [.lst (l14 p q r s), .lst (l14 p q r s)]) (n := h.length) get0 (ds := d5 p q r s ++ d11) rfl) (shown14 F)
  have z2 := repr_dat (dat_obj (h := h ++ [.lst (l14 p q r s), .lst (l14 p q r s)]) (n := h.length + 1) get1 (ds := d5 p q r s ++ d11) rfl) (shown14 F)
  simp [z1, z2]
end
end
end K13


/-! what is told of the story's placements by hand -/
namespace K13
open PySem PySem.Spec PyProof.Rows L2 AM TL
noncomputable section
def frB (n : Nat) (x : Fr) : Bool := decide (0 < x.2) && decide (x.1.natAbs < 2 ^ n) && decide (x.2.natAbs < 2 ^ n) && decide (Int.gcd x.1 x.2 = 1)
theorem frB_ok {n : Nat} {x : Fr} (e : frB n x = true) : FrOk n x := by
  unfold frB at e
  simp only [Bool.and_eq_true, decide_eq_true_eq] at e
  exact ⟨e.1.1.1, e.1.1.2, e.1.2, e.2⟩
theorem rowOk_of {n : Nat} {r : List Fr} (e : r.all (frB n) = true) : RowOk n r := fun x hx => frB_ok (List.all_eq_true.mp e x hx)
def drawnR : List (List Fr) := [[(3, 1), (0, 1)], [(3, 1), (-4, 1)]]
def otherR : List (List Fr) := [[(3, 1), (0, 1)], [(5, 1), (-2, 1)]]
def deepR : List (List Fr) := [[(3, 1), (0, 1), (0, 1)], [(3, 1), (-2, 1), (2, 1)]]
def farR : List (List Fr) := [[(3, 1), (1, 1)], [(3, 1), (-3, 1)]]
def halfR : List (List Fr) := [[(3, 1), (0, 1)], [(4, 1), (-3, 1)]]
def movesR : List (List Fr) := [[(0, 1), (0, 1)], [(1, 1), (1, 1)]]
def backR : List (List Fr) := [[(3, 1), (0, 1)], [(2, 1), (-5, 1)]]
def quartR : List (List Fr) := [[(3, 1), (0, 1), (0, 1)], [(3, 1), (-7, 2), (1, 2)]]
def looseV (x y : List Fr) : List Fr := [lessF (9, 1) (rowSq (rowLess (ledD [(0, 1), (0, 1)] x.length) x)), lessF (9, 1) (rowSq (rowLess x (ledD [(6, 1), (0, 1)] x.length))), lessF (16, 1) (rowSq (rowLess y x))]
def scoreV (x y : List Fr) : Fr := totalF [rowProd [(0, 1), (-2, 1)] x, rowProd [(1, 2), (0, 1)] y]
def mixV (x y x' y' : List Fr) (s : Fr) : List (List Fr) := ([x, y].zip [x', y']).map fun z => rowPlus (rowTimes (ledD z.1 (max x.length x'.length)) (lessF (1, 1) s)) (rowTimes (ledD z.2 (max x.length x'.length)) s)
section
variable {p q r s : Str} {h : AH} {n a : Nat} {x y x' y' : List Fr}
theorem pl_of {w : Nat} (lx : x.length = w) (ly : y.length = w) (w2 : 2 ≤ w) (w12 : w ≤ 12) (ex : x.all (frB 10) = true) (ey : y.all (frB 10) = true) : PlOk (netOf p q r s) 10 w [x, y] := by
  refine ⟨rfl, fun z hz => ?_, (fun e => by cases e), w2, w12, by decide, by decide⟩
  have c : z = x ∨ z = y := by simpa using hz
  rcases c with rfl | rfl
  · exact ⟨rowOk_of ex, lx⟩
  · exact ⟨rowOk_of ey, ly⟩
theorem pl_drawn : PlOk (netOf p q r s) 10 2 drawnR := pl_of rfl rfl (by decide) (by decide) (by decide +kernel) (by decide +kernel)
theorem pl_other : PlOk (netOf p q r s) 10 2 otherR := pl_of rfl rfl (by decide) (by decide) (by decide +kernel) (by decide +kernel)
theorem pl_deep : PlOk (netOf p q r s) 10 3 deepR := pl_of rfl rfl (by decide) (by decide) (by decide +kernel) (by decide +kernel)
theorem pl_far : PlOk (netOf p q r s) 10 2 farR := pl_of rfl rfl (by decide) (by decide) (by decide +kernel) (by decide +kernel)
theorem pl_half : PlOk (netOf p q r s) 10 2 halfR := pl_of rfl rfl (by decide) (by decide) (by decide +kernel) (by decide +kernel)
theorem pl_back : PlOk (netOf p q r s) 10 2 backR := pl_of rfl rfl (by decide) (by decide) (by decide +kernel) (by decide +kernel)
theorem spot_p (F : Four p q r s) : (netOf p q r s).spotD [x, y] p = ledD [(0, 1), (0, 1)] x.length := by
  unfold NetR.spotD
  rw [if_neg (ring_p F), place_p]
  rfl
theorem spot_q (F : Four p q r s) : (netOf p q r s).spotD [x, y] q = ledD [(6, 1), (0, 1)] x.length := by
  unfold NetR.spotD
  rw [if_neg (ring_q F), place_q F]
  rfl
theorem idx_r : (netOf p q r s).ringNames.idxOf r = 0 := by
  show List.idxOf r [r, s] = 0
  simp
theorem idx_s (F : Four p q r s) : (netOf p q r s).ringNames.idxOf s = 1 := by
  show List.idxOf s [r, s] = 1
  simp [List.idxOf_cons, bf F.rs]
theorem spot_r : (netOf p q r s).spotD [x, y] r = x := by
  unfold NetR.spotD
  rw [if_pos ring_r, idx_r]
  rfl
theorem spot_s (F : Four p q r s) : (netOf p q r s).spotD [x, y] s = y := by
  unfold NetR.spotD
  rw [if_pos ring_s, idx_s F]
  rfl
theorem loose_of (F : Four p q r s) : (netOf p q r s).looseD [x, y] = looseV x y := by
  show [lessF ((netOf p q r s).sqD (p, r)) (rowSq (rowLess ((netOf p q r s).spotD [x, y] p) ((netOf p q r s).spotD [x, y] r))), lessF ((netOf p q r s).sqD (r, q)) (rowSq (rowLess ((netOf p q r s).spotD [x, y] r) ((netOf p q r s).spotD [x, y] q))), lessF ((netOf p q r s).sqD (s, r)) (rowSq (rowLess ((netOf p q r s).spotD [x, y] s) ((netOf p q r s).spotD [x, y] r)))] = _
  rw [sq_0 F, sq_1 F, sq_2 F, spot_p F, spot_q F, spot_r, spot_s F]
  rfl
theorem fits_of (F : Four p q r s) : (netOf p q r s).fits [x, y] = !(looseV x y).any fun z => belowF z (0, 1) := by
  unfold NetR.fits
  rw [loose_of F]
theorem score_of (F : Four p q r s) : (netOf p q r s).scoreD [x, y] = scoreV x y := by
  show totalF [rowProd ((netOf p q r s).weightD r) x, rowProd ((netOf p q r s).weightD s) y] = _
  rw [weight_r, weight_s F]
  rfl
theorem mix_of (u : Fr) : mixD (netOf p q r s) [x, y] [x', y'] u = mixV x y x' y' u := rfl
theorem pic_of (F : Four p q r s) : (netOf p q r s).picD = drawnR := by
  show [(netOf p q r s).placeD r, (netOf p q r s).placeD s] = _
  rw [place_r F, place_s F]
  rfl
theorem moved_of (F : Four p q r s) (ms : List (List Fr)) (u : Fr) : movedD (netOf p q r s) ms u = (drawnR.zip ms).map fun z => rowPlus z.1 (rowTimes z.2 u) := by
  unfold movedD
  rw [pic_of F]
theorem fit_drawn (F : Four p q r s) : (netOf p q r s).fits drawnR = true := (fits_of F).trans (by decide +kernel)
theorem fit_other (F : Four p q r s) : (netOf p q r s).fits otherR = true := (fits_of F).trans (by decide +kernel)
theorem fit_deep (F : Four p q r s) : (netOf p q r s).fits deepR = true := (fits_of F).trans (by decide +kernel)
theorem fit_far (F : Four p q r s) : (netOf p q r s).fits farR = false := (fits_of F).trans (by decide +kernel)
theorem fit_half (F : Four p q r s) : (netOf p q r s).fits halfR = true := (fits_of F).trans (by decide +kernel)
theorem fit_back (F : Four p q r s) : (netOf p q r s).fits backR = false := (fits_of F).trans (by decide +kernel)
theorem lets_any {w : Nat} {pl : List (List Fr)} {v : List Fr} (F : Four p q r s) (D : NetAt h n (netOf p q r s)) (Q : PlOk (netOf p q r s) 10 w pl) (T : (netOf p q r s).fits pl = true) (e : (netOf p q r s).looseD pl = v) (j : AH) : m_lets [.obj n, plP pl] (h ++ j) = .ok (rowP v) (h ++ j) := by
  rw [← e]
  exact lets D.app (net_ok F) Q T
theorem score_any {w : Nat} {pl : List (List Fr)} {v : Fr} (F : Four p q r s) (D : NetAt h n (netOf p q r s)) (Q : PlOk (netOf p q r s) 10 w pl) (T : (netOf p q r s).fits pl = true) (e : (netOf p q r s).scoreD pl = v) (j : AH) : m_score [.obj n, plP pl] (h ++ j) = .ok (ratP v) (h ++ j) := by
  rw [← e]
  exact score D.app (net_ok F) Q T
theorem isp_any {w : Nat} {pl : List (List Fr)} {b : Bool} (F : Four p q r s) (D : NetAt h n (netOf p q r s)) (Q : PlOk (netOf p q r s) 10 w pl) (T : (netOf p q r s).fits pl = b) (j : AH) : m_is_placement [.obj n, plP pl] (h ++ j) = .ok (.bl b) (h ++ j) := by
  rw [← T]
  exact is_placement D.app (net_ok F) Q
theorem isp_any0 {w : Nat} {pl : List (List Fr)} {b : Bool} (F : Four p q r s) (D : NetAt h n (netOf p q r s)) (Q : PlOk (netOf p q r s) 10 w pl) (T : (netOf p q r s).fits pl = b) : m_is_placement [.obj n, plP pl] h = .ok (.bl b) h := by
  rw [← T]
  exact is_placement D (net_ok F) Q
theorem lets_drawn (F : Four p q r s) : (netOf p q r s).looseD drawnR = [(0, 1), (0, 1), (0, 1)] := (loose_of F).trans (by decide +kernel)
theorem lets_other (F : Four p q r s) : (netOf p q r s).looseD otherR = [(0, 1), (0, 1), (8, 1)] := (loose_of F).trans (by decide +kernel)
theorem lets_deep (F : Four p q r s) : (netOf p q r s).looseD deepR = [(0, 1), (0, 1), (8, 1)] := (loose_of F).trans (by decide +kernel)
theorem lets_half (F : Four p q r s) : (netOf p q r s).looseD halfR = [(0, 1), (0, 1), (6, 1)] := (loose_of F).trans (by decide +kernel)
theorem score_drawn (F : Four p q r s) : (netOf p q r s).scoreD drawnR = (3, 2) := (score_of F).trans (by decide +kernel)
theorem score_other (F : Four p q r s) : (netOf p q r s).scoreD otherR = (5, 2) := (score_of F).trans (by decide +kernel)
theorem score_deep (F : Four p q r s) : (netOf p q r s).scoreD deepR = (3, 2) := (score_of F).trans (by decide +kernel)
theorem score_half (F : Four p q r s) : (netOf p q r s).scoreD halfR = (2, 1) := (score_of F).trans (by decide +kernel)
theorem mix_half : mixD (netOf p q r s) drawnR otherR (1, 2) = halfR := (mix_of _).trans (by decide +kernel)
theorem mix_quart : mixD (netOf p q r s) drawnR deepR (1, 4) = quartR := (mix_of _).trans (by decide +kernel)
theorem moved_two (F : Four p q r s) : movedD (netOf p q r s) movesR (2, 1) = otherR := (moved_of F _ _).trans (by decide +kernel)
theorem moved_back (F : Four p q r s) : movedD (netOf p q r s) movesR (-1, 1) = backR := (moved_of F _ _).trans (by decide +kernel)
theorem apart_sq (F : Four p q r s) : (netOf p q r s).apartD otherR s q = (5, 1) := by
  unfold NetR.apartD otherR
  rw [spot_s F, spot_q F]
  decide +kernel
theorem apart_ps (F : Four p q r s) : (netOf p q r s).apartD deepR p s = (17, 1) := by
  unfold NetR.apartD deepR
  rw [spot_s F, spot_p F]
  decide +kernel
theorem fr_60 {u : Fr} (e : frB 60 u = true) : FrOk 60 u := frB_ok e
theorem moves_rows : ∀ z ∈ movesR, RowOk 60 z ∧ z.length = 2 := by
  intro z hz
  have c : z = [(0, 1), (0, 1)] ∨ z = [(1, 1), (1, 1)] := by simpa [movesR] using hz
  rcases c with rfl | rfl
  · exact ⟨rowOk_of (by decide +kernel), rfl⟩
  · exact ⟨rowOk_of (by decide +kernel), rfl⟩
def k5 : List P := [plP drawnR, .bl true, .bl true, .bl true, .bl false]
def k3a : List P := [rowP [(0, 1), (0, 1), (0, 1)], rowP [(0, 1), (0, 1), (8, 1)], rowP [(0, 1), (0, 1), (8, 1)]]
def k3b : List P := [ratP (3, 2), ratP (5, 2), ratP (3, 2)]
def k5b : List P := [plP halfR, rowP [(0, 1), (0, 1), (6, 1)], ratP (2, 1), ratP (5, 1), ratP (17, 1)]
def k2c : List P := [plP otherR, .bl false]
def k1d : List P := [rowP [(3, 1), (-7, 2), (1, 2)]]
def kAll : List P := k5 ++ k3a ++ k3b ++ k5b ++ k2c ++ k1d
def eAll : List PyData := [plD drawnR, .bool true, .bool true, .bool true, .bool false, rowD [(0, 1), (0, 1), (0, 1)], rowD [(0, 1), (0, 1), (8, 1)], rowD [(0, 1), (0, 1), (8, 1)], ratD (3, 2), ratD (5, 2), ratD (3, 2), plD halfR, rowD [(0, 1), (0, 1), (6, 1)], ratD (2, 1), ratD (5, 1), ratD (17, 1), plD otherR, .bool false, rowD [(3, 1), (-7, 2), (1, 2)]]
theorem shown_all : shownOk (.list eAll) = true := by
  refine shown_ok 8 (by decide) ?_ ?_ ?_ ?_ ?_ <;> decide +kernel
theorem rows_right (F : Four p q r s) (D : NetAt h n (netOf p q r s)) (e : h[a]? = some (.lst [.str p, .str q, .str r, .str s])) : m__law_are_rows_right [.obj n, .obj a] h = .ok (.bl true) h := by
  have V := net_ok F
  refine fn_rt (j := [.lst kAll, .lst kAll]) ?_ rfl
  unfold b__law_are_rows_right
  show (sQ _ _) [some (.obj n), some (.obj a), none, none, none, none, none, none, none, none, none, none, none, none] h = _
  refine (sq_nx (t' := [some (.obj n), some (.obj a), some (.str p), some (.str q), some (.str r), some (.str s), none, none, none, none, none, none, none, none]) (h' := h) ?_).trans ?_
  · simp [gU_obj e]
  refine (sq_nx (t' := [some (.obj n), some (.obj a), some (.str p), some (.str q), some (.str r), some (.str s), some (plP drawnR), some (plP otherR), none, none, none, none, none, none]) (h' := h) ?_).trans ?_
  · have s1 := picture D V
    rw [pic_of F] at s1
    simp [s1]
    rfl
  refine (sq_nx (t' := [some (.obj n), some (.obj a), some (.str p), some (.str q), some (.str r), some (.str s), some (plP drawnR), some (plP otherR), some (plP deepR), none, none, none, none, none]) (h' := h) ?_).trans ?_
  · simp
    rfl
  refine (sq_nx (t' := [some (.obj n), some (.obj a), some (.str p), some (.str q), some (.str r), some (.str s), some (plP drawnR), some (plP otherR), some (plP deepR), some (plP farR), none, none, none, none]) (h' := h) ?_).trans ?_
  · simp
    rfl
  refine (sq_nx (t' := [some (.obj n), some (.obj a), some (.str p), some (.str q), some (.str r), some (.str s), some (plP drawnR), some (plP otherR), some (plP deepR), some (plP farR), some (plP halfR), some (plP movesR), none, none]) (h' := h) ?_).trans ?_
  · have s1 := mixture (s := (1, 2)) D V pl_drawn (fit_drawn F) pl_other (fit_other F) (fr_60 (by decide +kernel)) (by decide) (by decide)
    rw [mix_half] at s1
    have s1 : m_mixture [.obj n, plP drawnR, plP otherR, .tup [.int 1, .int 2]] h = _ := s1
    simp [s1]
    rfl
  have i1 := fun j => isp_any F D pl_drawn (fit_drawn F) j
  have i2 := fun j => isp_any F D pl_other (fit_other F) j
  refine (sq_nx (t' := [some (.obj n), some (.obj a), some (.str p), some (.str q), some (.str r), some (.str s), some (plP drawnR), some (plP otherR), some (plP deepR), some (plP farR), some (plP halfR), some (plP movesR), some (.obj h.length), none]) (h' := h ++ [.lst k5]) ?_).trans ?_
  · have i1 := isp_any0 F D pl_drawn (fit_drawn F)
    have i2 := isp_any0 F D pl_other (fit_other F)
    have i3 := isp_any0 F D pl_deep (fit_deep F)
    have i4 := isp_any0 F D pl_far (fit_far F)
    simp [i1, i2, i3, i4]
    rfl
  refine (sq_nx (t' := [some (.obj n), some (.obj a), some (.str p), some (.str q), some (.str r), some (.str s), some (plP drawnR), some (plP otherR), some (plP deepR), some (plP farR), some (plP halfR), some (plP movesR), some (.obj h.length), some (.obj (h.length + 1))]) (h' := h ++ [.lst k5, .lst k5]) ?_).trans ?_
  · simp
    rfl
  have a1 := lets_any F D pl_drawn (fit_drawn F) (lets_drawn F)
  have a2 := lets_any F D pl_other (fit_other F) (lets_other F)
  have a3 := lets_any F D pl_deep (fit_deep F) (lets_deep F)
  have a4 := lets_any F D pl_half (fit_half F) (lets_half F)
  have b1 := score_any F D pl_drawn (fit_drawn F) (score_drawn F)
  have b2 := score_any F D pl_other (fit_other F) (score_other F)
  have b3 := score_any F D pl_deep (fit_deep F) (score_deep F)
  have b4 := score_any F D pl_half (fit_half F) (score_half F)
  refine (sq_nx (t' := [some (.obj n), some (.obj a), some (.str p), some (.str q), some (.str r), some (.str s), some (plP drawnR), some (plP otherR), some (plP deepR), some (plP farR), some (plP halfR), some (plP movesR), some (.obj h.length), some (.obj (h.length + 1))]) (h' := h ++ [.lst (k5 ++ k3a), .lst k5]) ?_).trans ?_
  · simp [isTy0, a1, a2, a3]
    rw [extend0 (by simp [k5])]
    rfl
  refine (sq_nx (t' := [some (.obj n), some (.obj a), some (.str p), some (.str q), some (.str r), some (.str s), some (plP drawnR), some (plP otherR), some (plP deepR), some (plP farR), some (plP halfR), some (plP movesR), some (.obj h.length), some (.obj (h.length + 1))]) (h' := h ++ [.lst (k5 ++ k3a ++ k3b), .lst k5]) ?_).trans ?_
  · simp [isTy0, b1, b2, b3]
    rw [extend0 (by simp [k5, k3a])]
    rfl
  refine (sq_nx (t' := [some (.obj n), some (.obj a), some (.str p), some (.str q), some (.str r), some (.str s), some (plP drawnR), some (plP otherR), some (plP deepR), some (plP farR), some (plP halfR), some (plP movesR), some (.obj h.length), some (.obj (h.length + 1))]) (h' := h ++ [.lst (k5 ++ k3a ++ k3b), .lst (k5 ++ k3a ++ k3b)]) ?_).trans ?_
  · have m3 : ∀ hh : AH, vMulA false (.tup [.tup [.int 0, .int 1]]) (.int 3) hh = .ok (rowP [(0, 1), (0, 1), (0, 1)]) hh := fun hh => rfl
    simp [isTy1, m3]
    rw [extend1 (by simp [k5])]
    rfl
  refine (sq_nx (t' := [some (.obj n), some (.obj a), some (.str p), some (.str q), some (.str r), some (.str s), some (plP drawnR), some (plP otherR), some (plP deepR), some (plP farR), some (plP halfR), some (plP movesR), some (.obj h.length), some (.obj (h.length + 1))]) (h' := h ++ [.lst (k5 ++ k3a ++ k3b ++ k5b), .lst (k5 ++ k3a ++ k3b)]) ?_).trans ?_
  · have c1 : ∀ j, m_between [.obj n, plP otherR, .str s, .str q] (h ++ j) = .ok (ratP (5, 1)) (h ++ j) := fun j => by
      rw [← apart_sq F]
      exact between D.app V pl_other (fit_other F) in_s in_q
    have c2 : ∀ j, m_between [.obj n, plP deepR, .str p, .str s] (h ++ j) = .ok (ratP (17, 1)) (h ++ j) := fun j => by
      rw [← apart_ps F]
      exact between D.app V pl_deep (fit_deep F) in_p in_s
    simp [isTy0, a4, b4, c1, c2]
    rw [extend0 (by simp [k5, k3a, k3b])]
    simp [k5b]
  refine (sq_nx (t' := [some (.obj n), some (.obj a), some (.str p), some (.str q), some (.str r), some (.str s), some (plP drawnR), some (plP otherR), some (plP deepR), some (plP farR), some (plP halfR), some (plP movesR), some (.obj h.length), some (.obj (h.length + 1))]) (h' := h ++ [.lst (k5 ++ k3a ++ k3b ++ k5b), .lst (k5 ++ k3a ++ k3b ++ k5b)]) ?_).trans ?_
  · simp [isTy1]
    rw [extend1 (by simp [k5, k3a, k3b])]
    simp [k5b]
    exact ⟨rfl, rfl, rfl, rfl, rfl⟩
  refine (sq_nx (t' := [some (.obj n), some (.obj a), some (.str p), some (.str q), some (.str r), some (.str s), some (plP drawnR), some (plP otherR), some (plP deepR), some (plP farR), some (plP halfR), some (plP movesR), some (.obj h.length), some (.obj (h.length + 1))]) (h' := h ++ [.lst (k5 ++ k3a ++ k3b ++ k5b ++ k2c), .lst (k5 ++ k3a ++ k3b ++ k5b)]) ?_).trans ?_
  · have c1 : ∀ j, m_moved [.obj n, plP movesR, .tup [.int 2, .int 1]] (h ++ j) = .ok (plP otherR) (h ++ j) := fun j => by
      rw [← moved_two F]
      exact moved (s := (2, 1)) D.app V rfl moves_rows (fr_60 (by decide +kernel))
    have c2 : ∀ j, m_moved [.obj n, plP movesR, .tup [.int (-1), .int 1]] (h ++ j) = .ok (plP backR) (h ++ j) := fun j => by
      rw [← moved_back F]
      exact moved (s := (-1, 1)) D.app V rfl moves_rows (fr_60 (by decide +kernel))
    have c3 := fun j => isp_any F D pl_back (fit_back F) j
    simp [isTy0, c1, c2, c3]
    rw [extend0 (by simp [k5, k3a, k3b, k5b])]
    simp [k2c]
  refine (sq_nx (t' := [some (.obj n), some (.obj a), some (.str p), some (.str q), some (.str r), some (.str s), some (plP drawnR), some (plP otherR), some (plP deepR), some (plP farR), some (plP halfR), some (plP movesR), some (.obj h.length), some (.obj (h.length + 1))]) (h' := h ++ [.lst kAll, .lst (k5 ++ k3a ++ k3b ++ k5b)]) ?_).trans ?_
  · have c1 : ∀ j, m_mixture [.obj n, plP drawnR, plP deepR, .tup [.int 1, .int 4]] (h ++ j) = .ok (plP quartR) (h ++ j) := fun j => by
      rw [← mix_quart (p := p) (q := q) (r := r) (s := s)]
      exact mixture (s := (1, 4)) D.app V pl_drawn (fit_drawn F) pl_deep (fit_deep F) (fr_60 (by decide +kernel)) (by decide) (by decide)
    have c2 : ∀ hh : AH, itemP (plP quartR) (.int 1) hh = .ok (rowP [(3, 1), (-7, 2), (1, 2)]) hh := fun hh => rfl
    simp [isTy0, c1, c2]
    rw [append0 (by simp [k5, k3a, k3b, k5b, k2c])]
    simp [kAll, k1d]
  refine (sq_nx (t' := [some (.obj n), some (.obj a), some (.str p), some (.str q), some (.str r), some (.str s), some (plP drawnR), some (plP otherR), some (plP deepR), some (plP farR), some (plP halfR), some (plP movesR), some (.obj h.length), some (.obj (h.length + 1))]) (h' := h ++ [.lst kAll, .lst kAll]) ?_).trans ?_
  · simp [isTy1]
    rw [extend1 (by simp [k5, k3a, k3b, k5b])]
    simp [kAll, k2c, k1d]
    rfl
  have z1 := repr_dat (dat_obj (h := h ++ [.lst kAll, .lst kAll]) (n := h.length) get0 (ds := eAll) rfl) shown_all
  have z2 := repr_dat (dat_obj (h := h ++ [.lst kAll, .lst kAll]) (n := h.length + 1) get1 (ds := eAll) rfl) shown_all
  simp [z1, z2]
end
end
end K13


/-! both ways of calling -/
namespace K13
open PySem PySem.Spec PyProof.Rows L2 AM TL
noncomputable section
theorem eCallK_at (n nk np : Nat) (perm : List Nat) (m : Fn) (a b : LM) (t : AM.Loc) (h : AH) : eCallK n nk np perm m a b t h = (a t h).bind fun xs h1 => (b t h1).bind fun ys h2 => if xs.length = n ∧ ys.length = nk ∧ (permL perm xs ys).length = np then m (permL perm xs ys) h2 else .bad := rfl
theorem perm1 (x : P) : permL [0] [] [x] = [x] := rfl
theorem perm2 (x y : P) : permL [1, 0] [] [x, y] = [y, x] := rfl
theorem perm3 (x y z : P) : permL [2, 1, 0] [] [x, y, z] = [z, y, x] := rfl
theorem perm4 (x y z u : P) : permL [3, 2, 1, 0] [] [x, y, z, u] = [u, z, y, x] := rfl
def moves2R : List (List Fr) := [[(1, 1), (0, 1)], [(0, 1), (1, 1)]]
def thirdR : List (List Fr) := [[(3, 1), (0, 1)], [(11, 3), (-10, 3)]]
def stepR : List (List Fr) := [[(7, 2), (0, 1)], [(3, 1), (-7, 2)]]
def vC1 : List P := [rowP [(3, 1), (0, 1)], rowP [(0, 1), (-2, 1)]]
def vC2 : List P := [ratP (16, 1), .tup [.int 1]]
def vC3 : List P := [plP drawnR, .bl true]
def vC4 : List P := [rowP [(0, 1), (0, 1), (8, 1)], ratP (5, 2), ratP (29, 1), plP thirdR, plP stepR]
def vC : List P := [rowP [(3, 1), (0, 1)], rowP [(0, 1), (-2, 1)], ratP (16, 1), .tup [.int 1], plP drawnR, .bl true, rowP [(0, 1), (0, 1), (8, 1)], ratP (5, 2), ratP (29, 1), plP thirdR, plP stepR]
def twin (z : P) : P := .tup [z, z]
theorem twin_shown : ∀ z ∈ vC, ∀ g, ∃ d, dataP g z = some d ∧ shownOk d = true := by
  simp only [vC, List.forall_mem_cons, List.forall_mem_nil, and_true]
  exact ⟨fun g => ⟨rowD [(3, 1), (0, 1)], rfl, by decide +kernel⟩, fun g => ⟨rowD [(0, 1), (-2, 1)], rfl, by decide +kernel⟩, fun g => ⟨ratD (16, 1), rfl, by decide +kernel⟩, fun g => ⟨.tuple [.int 1], rfl, by decide +kernel⟩, fun g => ⟨plD drawnR, rfl, by decide +kernel⟩, fun g => ⟨.bool true, rfl, by decide +kernel⟩,
    fun g => ⟨rowD [(0, 1), (0, 1), (8, 1)], rfl, by decide +kernel⟩, fun g => ⟨ratD (5, 2), rfl, by decide +kernel⟩, fun g => ⟨ratD (29, 1), rfl, by decide +kernel⟩, fun g => ⟨plD thirdR, rfl, by decide +kernel⟩, fun g => ⟨plD stepR, rfl, by decide +kernel⟩, fun x hx => by cases hx⟩
section
variable {p q r s : Str} {h : AH} {n a : Nat} {x y x' y' : List Fr}
theorem mix_third : mixD (netOf p q r s) drawnR otherR (1, 3) = thirdR := (mix_of _).trans (by decide +kernel)
theorem moved_half (F : Four p q r s) : movedD (netOf p q r s) moves2R (1, 2) = stepR := (moved_of F _ _).trans (by decide +kernel)
theorem apart_sp (F : Four p q r s) : (netOf p q r s).apartD otherR s p = (29, 1) := by
  unfold NetR.apartD otherR
  rw [spot_s F, spot_p F]
  decide +kernel
theorem moves2_rows : ∀ z ∈ moves2R, RowOk 60 z ∧ z.length = 2 := by
  intro z hz
  have c : z = [(1, 1), (0, 1)] ∨ z = [(0, 1), (1, 1)] := by simpa [moves2R] using hz
  rcases c with rfl | rfl
  · exact ⟨rowOk_of (by decide +kernel), rfl⟩
  · exact ⟨rowOk_of (by decide +kernel), rfl⟩
theorem calls_right (F : Four p q r s) (D : NetAt h n (netOf p q r s)) (e : h[a]? = some (.lst [.str p, .str q, .str r, .str s])) : m__law_are_calls_right [.obj n, .obj a] h = .ok (.bl true) h := by
  have V := net_ok F
  refine fn_rt (j := [.lst (vC.map twin)]) ?_ rfl
  unfold b__law_are_calls_right
  show (sQ _ _) [some (.obj n), some (.obj a), none, none, none, none, none, none, none, none, none, none] h = _
  refine (sq_nx (t' := [some (.obj n), some (.obj a), some (.str p), some (.str q), some (.str r), some (.str s), none, none, none, none, none, none]) (h' := h) ?_).trans ?_
  · simp [gU_obj e]
  refine (sq_nx (t' := [some (.obj n), some (.obj a), some (.str p), some (.str q), some (.str r), some (.str s), some (plP drawnR), some (plP otherR), some (plP moves2R), none, none, none]) (h' := h) ?_).trans ?_
  · have s1 := picture D V
    rw [pic_of F] at s1
    simp [s1]
    exact ⟨rfl, rfl⟩
  refine (sq_nx (t' := [some (.obj n), some (.obj a), some (.str p), some (.str q), some (.str r), some (.str s), some (plP drawnR), some (plP otherR), some (plP moves2R), some (.obj h.length), none, none]) (h' := h ++ [.lst (vC1.map twin)]) ?_).trans ?_
  · have s1 := place_of D V (x := r) in_r
    have s2 := (weight_ring D V (x := r) ring_r).1
    rw [place_r F] at s1
    rw [weight_r] at s2
    simp [eCallK_at, perm2, s1, s2]
    rfl
  refine (sq_nx (t' := [some (.obj n), some (.obj a), some (.str p), some (.str q), some (.str r), some (.str s), some (plP drawnR), some (plP otherR), some (plP moves2R), some (.obj h.length), none, none]) (h' := h ++ [.lst ((vC1 ++ vC2).map twin)]) ?_).trans ?_
  · have s1 : ∀ j, m_square_of [.obj n, .int 2] (h ++ j) = .ok (ratP (16, 1)) (h ++ j) := fun j => by
      rw [← sq_2 F]
      exact square_of (k := 2) (c := (s, r)) D.app V rfl
    have s2 : ∀ j, m_cords_at [.obj n, .str q] (h ++ j) = .ok (.tup [.int 1]) (h ++ j) := fun j => by
      have z := cords_at (D.app (j := j)) V in_q
      rw [at_q F] at z
      exact z
    simp [isTy0, eCallK_at, perm2, s1, s2]
    rw [extend0 (by simp [vC1])]
    rfl
  refine (sq_nx (t' := [some (.obj n), some (.obj a), some (.str p), some (.str q), some (.str r), some (.str s), some (plP drawnR), some (plP otherR), some (plP moves2R), some (.obj h.length), none, none]) (h' := h ++ [.lst ((vC1 ++ vC2 ++ vC3).map twin)]) ?_).trans ?_
  · have s1 : ∀ j, m_picture [.obj n] (h ++ j) = .ok (plP drawnR) (h ++ j) := fun j => by
      rw [← pic_of F]
      exact picture D.app V
    have s2 := fun j => isp_any F D pl_other (fit_other F) j
    simp [isTy0, eCallK_at, perm1, perm2, s1, s2]
    rw [extend0 (by simp [vC1, vC2])]
    simp [vC3, twin]
  refine (sq_nx (t' := [some (.obj n), some (.obj a), some (.str p), some (.str q), some (.str r), some (.str s), some (plP drawnR), some (plP otherR), some (plP moves2R), some (.obj h.length), none, none]) (h' := h ++ [.lst ((vC1 ++ vC2 ++ vC3).map twin ++ [twin (rowP [(0, 1), (0, 1), (8, 1)])])]) ?_).trans ?_
  · have s1 := lets_any F D pl_other (fit_other F) (lets_other F)
    simp [isTy0, eCallK_at, perm2, s1]
    rw [append0 (by simp [vC1, vC2, vC3])]
    simp [twin]
  refine (sq_nx (t' := [some (.obj n), some (.obj a), some (.str p), some (.str q), some (.str r), some (.str s), some (plP drawnR), some (plP otherR), some (plP moves2R), some (.obj h.length), none, none]) (h' := h ++ [.lst ((vC1 ++ vC2 ++ vC3).map twin ++ [twin (rowP [(0, 1), (0, 1), (8, 1)])] ++ [twin (ratP (5, 2))])]) ?_).trans ?_
  · have s1 := score_any F D pl_other (fit_other F) (score_other F)
    simp [isTy0, eCallK_at, perm2, s1]
    rw [append0 (by simp [vC1, vC2, vC3])]
    simp [twin]
  refine (sq_nx (t' := [some (.obj n), some (.obj a), some (.str p), some (.str q), some (.str r), some (.str s), some (plP drawnR), some (plP otherR), some (plP moves2R), some (.obj h.length), none, none]) (h' := h ++ [.lst ((vC1 ++ vC2 ++ vC3).map twin ++ [twin (rowP [(0, 1), (0, 1), (8, 1)])] ++ [twin (ratP (5, 2))] ++ [twin (ratP (29, 1))])]) ?_).trans ?_
  · have s1 : ∀ j, m_between [.obj n, plP otherR, .str s, .str p] (h ++ j) = .ok (ratP (29, 1)) (h ++ j) := fun j => by
      rw [← apart_sp F]
      exact between D.app V pl_other (fit_other F) in_s in_p
    simp [isTy0, eCallK_at, perm4, s1]
    rw [append0 (by simp [vC1, vC2, vC3])]
    simp [twin]
  refine (sq_nx (t' := [some (.obj n), some (.obj a), some (.str p), some (.str q), some (.str r), some (.str s), some (plP drawnR), some (plP otherR), some (plP moves2R), some (.obj h.length), none, none]) (h' := h ++ [.lst ((vC1 ++ vC2 ++ vC3).map twin ++ [twin (rowP [(0, 1), (0, 1), (8, 1)])] ++ [twin (ratP (5, 2))] ++ [twin (ratP (29, 1))] ++ [twin (plP thirdR)])]) ?_).trans ?_
  · have s1 : ∀ j, m_mixture [.obj n, plP drawnR, plP otherR, .tup [.int 1, .int 3]] (h ++ j) = .ok (plP thirdR) (h ++ j) := fun j => by
      rw [← mix_third (p := p) (q := q) (r := r) (s := s)]
      exact mixture (s := (1, 3)) D.app V pl_drawn (fit_drawn F) pl_other (fit_other F) (fr_60 (by decide +kernel)) (by decide) (by decide)
    simp [isTy0, eCallK_at, perm4, s1]
    rw [append0 (by simp [vC1, vC2, vC3])]
    simp [twin]
  refine (sq_nx (t' := [some (.obj n), some (.obj a), some (.str p), some (.str q), some (.str r), some (.str s), some (plP drawnR), some (plP otherR), some (plP moves2R), some (.obj h.length), none, none]) (h' := h ++ [.lst (vC.map twin)]) ?_).trans ?_
  · have s1 : ∀ j, m_moved [.obj n, plP moves2R, .tup [.int 1, .int 2]] (h ++ j) = .ok (plP stepR) (h ++ j) := fun j => by
      rw [← moved_half F]
      exact moved (s := (1, 2)) D.app V rfl moves2_rows (fr_60 (by decide +kernel))
    simp [isTy0, eCallK_at, perm3, s1]
    rw [append0 (by simp [vC1, vC2, vC3])]
    simp [vC, vC1, vC2, vC3, twin]
  have lc := lc_run (S := ⟨vC.map twin, [h.length]⟩) (h := h ++ [.lst (vC.map twin)]) (g := gT 2 (gsC (gN 10) (gsC (gN 11) gsN))) (c := tY) (e := eCmp eqP (eCB fRepr (lC (eV 10) lN)) (eCB fRepr (lC (eV 11) lN))) (t := [some (.obj n), some (.obj a), some (.str p), some (.str q), some (.str r), some (.str s), some (plP drawnR), some (plP otherR), some (plP moves2R), some (.obj h.length), none, none])
    twin (fun _ => some (.bl true)) (fun acc => by
      intro m hm
      have hm : m = h.length := by simpa using hm
      subst hm
      rw [List.append_assoc]
      simp) (ys := vC) (acc := []) (fun z hz acc => by
      obtain ⟨d, e1, e2⟩ := twin_shown z hz (resolve (h ++ [.lst (vC.map twin)] ++ [.lst acc]) 4)
      have e1 : dat (h ++ [.lst (vC.map twin)] ++ [.lst acc]) z = some d := e1
      have rp := repr_dat e1 e2
      have rp2 : ∀ j, j = h ++ [.lst (vC.map twin)] ++ [.lst acc] → fRepr [z] j = .ok (.str d.shown) j := fun j e => by
        subst e
        exact rp
      refine ⟨[some (.obj n), some (.obj a), some (.str p), some (.str q), some (.str r), some (.str s), some (plP drawnR), some (plP otherR), some (plP moves2R), some (.obj h.length), some z, some z], rfl, [], [], by rw [List.append_nil]; rfl, ?_, rfl⟩
      rw [List.append_nil]
      simp only [eCmp_at, eCB_at, lC_at, lN_at, Out.bind_ok, eV_some (rfl : [some (P.obj n), some (.obj a), some (.str p), some (.str q), some (.str r), some (.str s), some (plP drawnR), some (plP otherR), some (plP moves2R), some (.obj h.length), some z, some z][10]? = some (some z)), eV_some (rfl : [some (P.obj n), some (.obj a), some (.str p), some (.str q), some (.str r), some (.str s), some (plP drawnR), some (plP otherR), some (plP moves2R), some (.obj h.length), some z, some z][11]? = some (some z)), rp, cmp_eq_str, beq_self_eq_true]) (by simp [vC])
  have so : srcSeq (.obj h.length) (h ++ [.lst (vC.map twin)]) = .ok ⟨vC.map twin, [h.length]⟩ (h ++ [.lst (vC.map twin)]) := by
    show (match (h ++ [O.lst (vC.map twin)])[h.length]? with
      | some (.lst xs) => Out.ok (Src.mk xs [h.length]) _
      | _ => .bad) = _
    rw [get0]
  have e3 := f_all (vC.map fun _ => true) (h ++ [.lst (vC.map twin)])
  rw [sR_at, eCB_at, lC_at, eLc_at, iSeq_at, eV_some (rfl : [some (P.obj n), some (.obj a), some (.str p), some (.str q), some (.str r), some (.str s), some (plP drawnR), some (plP otherR), some (plP moves2R), some (.obj h.length), none, none][9]? = _)]
  rw [Out.bind_ok, so, Out.bind_ok]
  rw [show wipeL [some (P.obj n), some (.obj a), some (.str p), some (.str q), some (.str r), some (.str s), some (plP drawnR), some (plP otherR), some (plP moves2R), some (.obj h.length), none, none] [10, 11] = [some (.obj n), some (.obj a), some (.str p), some (.str q), some (.str r), some (.str s), some (plP drawnR), some (plP otherR), some (plP moves2R), some (.obj h.length), none, none] from rfl, lc, Out.bind_ok, lN_at, Out.bind_ok, Out.bind_ok]
  exact congrArg (fun o : Out P => o.toS _ fun p h1 => OutS.rt p h1) e3
end
end
end K13


/-! the story -/
namespace K13
open PySem PySem.Spec PyProof.Rows L2 AM TL
noncomputable section
theorem lit_len : ("net 2" : Str).length = 5 ∧ ("peg " : Str).length = 4 ∧ (" 0 0" : Str).length = 4 ∧ (" 6 0" : Str).length = 4 ∧ ("ring " : Str).length = 5 ∧ (" 3 0 0 -2" : Str).length = 9 ∧ (" 3 -4 1/2 0" : Str).length = 11 ∧ ("cord " : Str).length = 5 ∧ (" " : Str).length = 1 ∧ ("\n" : Str).length = 1 := by decide +kernel
theorem lit_line {A B : Str} {xs ys : List Str} {x : Str} (e : tl A = joinL [32] (xs.map tl) ++ [32]) (e2 : tl B = 32 :: joinL [32] (ys.map tl)) (n1 : xs ≠ []) (n2 : ys ≠ []) : A ++ x ++ B = Txt.join " " (xs ++ x :: ys) := by
  apply ext_tl
  rw [join_eq, tl_join, tl_blank, tl_append, tl_append, e, e2]
  obtain ⟨x1, xs, rfl⟩ : ∃ x1 r, xs = x1 :: r := by
    cases xs with
    | nil => exact absurd rfl n1
    | cons x1 r => exact ⟨x1, r, rfl⟩
  have j2 : ∀ z : List Nat, joinL [32] (z :: ys.map tl) = z ++ 32 :: joinL [32] (ys.map tl) := fun z => by
    cases ys with
    | nil => exact absurd rfl n2
    | cons y ys => rfl
  have j1 : ∀ (r : List Str) (z : List Nat), joinL [32] (z :: r.map tl ++ tl x :: ys.map tl) = joinL [32] (z :: r.map tl) ++ [32] ++ joinL [32] (tl x :: ys.map tl) := by
    intro r
    induction r with
    | nil => intro z; simp [joinL]
    | cons y r ih =>
      intro z
      show z ++ ([32] ++ joinL [32] (tl y :: r.map tl ++ tl x :: ys.map tl)) = z ++ ([32] ++ joinL [32] (tl y :: r.map tl)) ++ [32] ++ _
      rw [ih]
      simp
  rw [List.map_append, List.map_cons, List.map_cons, j1, j2]
  simp
theorem lit_net : ("net 2" : Str) = Txt.join " " ["net", "2"] := by
  rw [join_eq]
  decide +kernel
section
variable {p q r s : Str} {h : AH} {n a : Nat}
theorem line_p : ("peg " : Str) ++ p ++ " 0 0" = Txt.join " " ["peg", p, "0", "0"] := lit_line (xs := ["peg"]) (ys := ["0", "0"]) (by decide +kernel) (by decide +kernel) (by simp) (by simp)
theorem line_q : ("peg " : Str) ++ q ++ " 6 0" = Txt.join " " ["peg", q, "6", "0"] := lit_line (xs := ["peg"]) (ys := ["6", "0"]) (by decide +kernel) (by decide +kernel) (by simp) (by simp)
theorem line_r : ("ring " : Str) ++ r ++ " 3 0 0 -2" = Txt.join " " ["ring", r, "3", "0", "0", "-2"] := lit_line (xs := ["ring"]) (ys := ["3", "0", "0", "-2"]) (by decide +kernel) (by decide +kernel) (by simp) (by simp)
theorem line_s : ("ring " : Str) ++ s ++ " 3 -4 1/2 0" = Txt.join " " ["ring", s, "3", "-4", "1/2", "0"] := lit_line (xs := ["ring"]) (ys := ["3", "-4", "1/2", "0"]) (by decide +kernel) (by decide +kernel) (by simp) (by simp)
theorem line_c (x y : Str) : ("cord " : Str) ++ x ++ " " ++ y = Txt.join " " ["cord", x, y] := by
  apply ext_tl
  rw [join_eq, tl_join, tl_blank, tl_append, tl_append, tl_append, tl_blank, show tl ("cord " : Str) = tl ("cord" : Str) ++ [32] by decide +kernel]
  simp [joinL]
theorem add_6 {x y : Str} {b : Bool} {h : AH} (hx : x.length ≤ 100) (hy : y.length ≤ 100) : vAdd b (.str x) (.str y) h = .ok (.str (x ++ y)) h := add_str (by omega)
theorem sum_le {k : Nat} : ∀ {xs : List Str}, (∀ x ∈ xs, x.length ≤ k) → (xs.map fun z => Str.length z).sum ≤ xs.length * k
  | [], _ => by simp
  | x :: xs, hx => by
    have a := hx x (List.mem_cons_self ..)
    have b := sum_le fun y hy => hx y (List.mem_cons_of_mem _ hy)
    rw [List.map_cons, List.sum_cons, List.length_cons, Nat.add_mul]
    omega
def linesOf (p q r s : Str) : List Str := (([("net" : Str), "2"] :: rowsOf p q r s).map (Txt.join " "))
theorem line_len (F : Four p q r s) : ∀ x ∈ linesOf p q r s, x.length ≤ 100 := by
  have w := rows_wordy F
  intro x hx
  obtain ⟨ws, hm, rfl⟩ := List.mem_map.mp hx
  have z := join_len " " 6 fun y hy => (w ws hm y hy).2
  have n : ws.length ≤ 6 := by
    have c : ∀ ws ∈ ([("net" : Str), "2"] :: rowsOf p q r s), ws.length ≤ 6 := by
      simp [rowsOf]
    exact c ws hm
  have b : (" " : Str).length = 1 := by decide +kernel
  rw [b] at z
  have : ws.length * (6 + 1) ≤ 6 * (6 + 1) := Nat.mul_le_mul_right _ n
  omega
theorem p_law_text (F : Four p q r s) (e : h[a]? = some (.lst [.str p, .str q, .str r, .str s])) : m__law_text [.obj a] h = .ok (.str (textOf p q r s)) h := by
  obtain ⟨l1, l2, l3, l4, l5, l6, l7, l8, l9, l10⟩ := lit_len
  have hp := plain_len F.hp
  have hq := plain_len F.hq
  have hr := plain_len F.hr
  have hs := plain_len F.hs
  have a1 : ∀ hh, vAdd false (.str "peg ") (.str p) hh = .ok (.str ("peg " ++ p)) hh := fun hh => add_6 (by omega) (by omega)
  have a2 : ∀ hh, vAdd false (.str "peg ") (.str q) hh = .ok (.str ("peg " ++ q)) hh := fun hh => add_6 (by omega) (by omega)
  have a3 : ∀ hh, vAdd false (.str "ring ") (.str r) hh = .ok (.str ("ring " ++ r)) hh := fun hh => add_6 (by omega) (by omega)
  have a4 : ∀ hh, vAdd false (.str "ring ") (.str s) hh = .ok (.str ("ring " ++ s)) hh := fun hh => add_6 (by omega) (by omega)
  have b1 : ∀ hh, vAdd false (.str ("peg " ++ p)) (.str " 0 0") hh = .ok (.str (Txt.join " " ["peg", p, "0", "0"])) hh := fun hh => by
    rw [← line_p]
    exact add_6 (by rw [Str.length_append]; omega) (by omega)
  have b2 : ∀ hh, vAdd false (.str ("peg " ++ q)) (.str " 6 0") hh = .ok (.str (Txt.join " " ["peg", q, "6", "0"])) hh := fun hh => by
    rw [← line_q]
    exact add_6 (by rw [Str.length_append]; omega) (by omega)
  have b3 : ∀ hh, vAdd false (.str ("ring " ++ r)) (.str " 3 0 0 -2") hh = .ok (.str (Txt.join " " ["ring", r, "3", "0", "0", "-2"])) hh := fun hh => by
    rw [← line_r]
    exact add_6 (by rw [Str.length_append]; omega) (by omega)
  have b4 : ∀ hh, vAdd false (.str ("ring " ++ s)) (.str " 3 -4 1/2 0") hh = .ok (.str (Txt.join " " ["ring", s, "3", "-4", "1/2", "0"])) hh := fun hh => by
    rw [← line_s]
    exact add_6 (by rw [Str.length_append]; omega) (by omega)
  have c1 : ∀ x : Str, x.length ≤ 6 → ∀ hh, vAdd false (.str "cord ") (.str x) hh = .ok (.str ("cord " ++ x)) hh := fun x hx hh => add_6 (by omega) (by omega)
  have c2 : ∀ x : Str, x.length ≤ 6 → ∀ hh, vAdd false (.str ("cord " ++ x)) (.str " ") hh = .ok (.str ("cord " ++ x ++ " ")) hh := fun x hx hh => add_6 (by rw [Str.length_append]; omega) (by omega)
  have c3 : ∀ x y : Str, x.length ≤ 6 → y.length ≤ 6 → ∀ hh, vAdd false (.str ("cord " ++ x ++ " ")) (.str y) hh = .ok (.str (Txt.join " " ["cord", x, y])) hh := fun x y hx hy hh => by
    rw [← line_c]
    exact add_6 (by rw [Str.length_append, Str.length_append]; omega) (by omega)
  have d1 := c1 p hp
  have d2 := c1 r hr
  have d3 := c1 s hs
  have d4 := c2 p hp
  have d5 := c2 r hr
  have d6 := c2 s hs
  have d7 := c3 p r hp hr
  have d8 := c3 r q hr hq
  have d9 := c3 s r hs hr
  refine fn_rt (j := [.lst ((linesOf p q r s).map P.str)]) ?_ rfl
  unfold b__law_text
  show (sQ _ _) [some (.obj a), none, none, none, none, none] h = _
  refine (sq_nx (t' := [some (.obj a), some (.str p), some (.str q), some (.str r), some (.str s), none]) (h' := h) ?_).trans ?_
  · simp [gU_obj e]
  refine (sq_nx (t' := [some (.obj a), some (.str p), some (.str q), some (.str r), some (.str s), some (.obj h.length)]) (h' := h ++ [.lst (((linesOf p q r s).take 5).map P.str)]) ?_).trans ?_
  · simp [a1, a2, a3, a4, b1, b2, b3, b4]
    rw [lit_net]
    rfl
  refine (sq_nx (t' := [some (.obj a), some (.str p), some (.str q), some (.str r), some (.str s), some (.obj h.length)]) (h' := h ++ [.lst ((linesOf p q r s).map P.str)]) ?_).trans ?_
  · simp only [sE_at, eBM_at, eLst_at, lC_at, lN_at, eB_at, eC_at, Out.bind_ok, eV_some (rfl : [some (P.obj a), some (.str p), some (.str q), some (.str r), some (.str s), some (.obj h.length)][1]? = _), eV_some (rfl : [some (P.obj a), some (.str p), some (.str q), some (.str r), some (.str s), some (.obj h.length)][2]? = _), eV_some (rfl : [some (P.obj a), some (.str p), some (.str q), some (.str r), some (.str s), some (.obj h.length)][3]? = _), eV_some (rfl : [some (P.obj a), some (.str p), some (.str q), some (.str r), some (.str s), some (.obj h.length)][4]? = _), eV_some (rfl : [some (P.obj a), some (.str p), some (.str q), some (.str r), some (.str s), some (.obj h.length)][5]? = _), isTy0, if_true, d1, d2, d3, d4, d5, d6, d7, d8, d9, List.length_cons, List.length_nil, Nat.reduceAdd, small_true (by decide : 3 ≤ 16777216), mkL_false]
    rw [extend0 (by simp [linesOf, rowsOf])]
    rfl
  have sq : seqOf (h ++ [.lst ((linesOf p q r s).map P.str)]) (.obj h.length) = some ((linesOf p q r s).map P.str) := by
    show (match (h ++ [O.lst ((linesOf p q r s).map P.str)])[h.length]? with
      | some (.lst xs) => some xs
      | _ => none) = _
    rw [get0]
  have j := join_str (y := ("\n" : Str)) sq (by
    have z := sum_le (line_len F)
    have n : (linesOf p q r s).length = 8 := rfl
    rw [n] at z ⊢
    omega)
  simp [j]
  rfl
end
theorem four_of {ys rest : List Str} (pm : (ys ++ rest).Perm pool) (l : ys.length = 4) : ∃ p q r s, ys = [p, q, r, s] ∧ Four p q r s := by
  obtain ⟨p, q, r, s, rfl⟩ : ∃ p q r s, ys = [p, q, r, s] := by
    match ys, l with
    | [p, q, r, s], _ => exact ⟨p, q, r, s, rfl⟩
  have nd : ([p, q, r, s] ++ rest).Nodup := pm.nodup_iff.mpr (by decide +kernel)
  have nd := (List.nodup_append.mp nd).1
  have m : ∀ x ∈ [p, q, r, s], plain x = true := fun x hx => pool_plain x (pm.mem_iff.mp (List.mem_append_left _ hx))
  simp only [List.nodup_cons, List.mem_cons, List.not_mem_nil, or_false, not_or, List.forall_mem_cons] at nd m
  exact ⟨p, q, r, s, rfl, m _ (.inl rfl), m _ (.inr (.inl rfl)), m _ (.inr (.inr (.inl rfl))), m _ (.inr (.inr (.inr rfl))), nd.1.1, nd.1.2.1, nd.1.2.2, nd.2.1.1, nd.2.1.2, nd.2.2.1⟩
theorem law_right {h : AH} {n : Nat} {a b : Int} (Q : PotAt h n a b 0) : ∃ h', m__law_right [.obj n] h = .ok (.bl true) h' := by
  obtain ⟨ys, rest, a', t', pm, l, ok, t0, t1, e⟩ := p_some P.str (fun _ => rfl) Q (xs := pool) (pool := .lst (pool.map P.str)) rfl (by decide) (many := 4) (by decide) (by decide)
  obtain ⟨p, q, r, s, rfl, F⟩ := four_of pm l
  have e : m__law_some [.obj n, .lst (pool.map P.str), .int 4] h = .ok (.obj (h.length + 1)) (h.set n (potO a' b t') ++ [O.lst (rest.map P.str), .lst [.str p, .str q, .str r, .str s]]) := e
  generalize hg : h.set n (potO a' b t') ++ [O.lst (rest.map P.str), .lst [.str p, .str q, .str r, .str s]] = g at e
  have at1 : g[h.length + 1]? = some (.lst [.str p, .str q, .str r, .str s]) := by
    rw [← hg, List.getElem?_append_right (by simp)]
    simp
  have tx := p_law_text F at1
  obtain ⟨g2, n1, D, keep⟩ := p_net_init (text_of F) (puts F) (by simp [draftOf]) g
  have lt := (List.getElem?_eq_some_iff.mp at1).1
  have at2 := (keep _ lt).trans at1
  have D : NetAt g2 g.length (netOf p q r s) := D
  have z1 := names_right F D at2
  have z2 := rows_right F D at2
  have z3 := calls_right F D at2
  have n1 : newOf "Net" m_Net_u_init_u [.str (textOf p q r s)] g = _ := n1
  have e : m__law_some [.obj n, .lst [.str "a", .str "hook", .str "moon", .str "zz", .str "ring", .str "peg", .str "k", .str "lamp"], .int 4] h = _ := e
  have bd : b__law_right [some (.obj n), none, none] h = .rt (.bl true) g2 := by
    unfold b__law_right
    simp [e, tx, n1, z1, z2, z3]
  refine ⟨trim h (.bl true) g2, ?_⟩
  show mkFn _ b__law_right _ h = _
  unfold mkFn
  rw [show ([P.obj n].map some ++ List.replicate (N__law_right.length - [P.obj n].length) none) = [some (.obj n), none, none] from rfl, bd]
theorem law_is (ns : List Int) : LawIs m_law ns := by
  obtain ⟨a, b, ok, e⟩ := p_pot ns 0 (by decide) []
  have e : m__law_pot [.scr (ns.map P.int), .int 0] [] = .ok (.obj 0) [.lst [.int a, .int b, .int 0]] := e
  have Q : PotAt [.lst [.int a, .int b, .int 0]] 0 a b 0 := ⟨ok, rfl, by decide, by decide⟩
  obtain ⟨h', z⟩ := law_right Q
  refine ⟨trim [] (.bl true) h', ?_⟩
  show mkFn _ b_law _ [] = _
  unfold mkFn
  have bd : b_law [some (.scr (ns.map P.int))] [] = .rt (.bl true) h' := by
    unfold b_law
    simp [e, z]
  rw [show ([P.scr (ns.map P.int)].map some ++ List.replicate (N_law.length - [P.scr (ns.map P.int)].length) none) = [some (.scr (ns.map P.int))] from rfl, bd]
end
end K13

theorem PySem.Challenge.cw_cordsatrest_k13_a_story_by_hand_and_by_n_holds : PySem.Challenge.rw_cordsatrest_k13_a_story_by_hand_and_by_n.Holds := by
  exact K13w.closes fun ns _ _ => K13.law_is ns
