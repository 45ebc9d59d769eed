import PyProof.Rows.All
import Wide.All
import OpenK.AllK
import Wide.FinOn
import HandS.ForMost
import HandS.Flow
import HandS.TupAny
import HandS.TupMul
import HandS.Small
import HandS.Conv
import HandS.SortInts
import HandS.Deep
import HandS.Style
import HandS.Star
import HandS.More
import HandS.SortOrd
import HandS.WordsDict
import HandS.Zip
import HandS.RaiseMore
import PyProof.ReprRoads
import HandS.Defaults
import HandS.HeadHook2
import HandS.HeadWalk
import KE.KStateDown
import HandS.Head0
import HandS.Head1
import HandS.Head2
import HandS.HeadEnd
import HandS.HeadHook1
import HandS.HeadHook4
import PyProof.ReprBulk
import PyProof.FitsInt
import PySem.Challenge.RW_swornapart_k69_collections_by_shapes
set_option Elab.async false
set_option linter.all false
set_option maxRecDepth 100000
set_option maxHeartbeats 4000000
/-! FW: a layer of values over HandS. Values D are trees; a store holds the lists and dicts that change. -/
namespace FW
open PySem L2

/-- values: lst, dct: a list, a dict that nobody changes any more; ref: an object of the store; cst: a thing of the module -/
inductive D where
  | non | bl (b : Bool) | int (i : Int) | str (x : Str)
  | tup (ds : List D) | lst (ds : List D) | dct (ks ds : List D)
  | ref (n : Nat) | cst (c : V)
/-- what stands in the store: a list, the script, a dict -/
inductive Ob where
  | lst (ds : List D) | flst (ds : List D) | dct (ks ds : List D)
abbrev Store := List Ob
abbrev Env := List (Option D)
structure Exn where
  cls : Str
  args : List D
inductive Res (α : Type) where
  | ok (a : α) | exc (x : Exn)
/-- the end of a statement -/
inductive SR where
  | nx (e : Env) | bk (e : Env) | ct (e : Env) | rt (d : D) | exc (x : Exn) (e : Env)
abbrev M (α : Type) := Env → Store → Option (Res α × Store)
abbrev MS := Env → Store → Option (SR × Store)
/-- a function of values -/
abbrev Fn := List D → Store → Option (Res D × Store)

/-- the addresses of the store's objects; those that no value may stand at -/
structure Ad where
  r : List Addr
  x : List Addr
def Ad.out (A : Ad) (a : Addr) : Prop := a ∉ A.r ∧ a ∉ A.x

def kD : Key → D
  | .inl i => .int i
  | .inr x => .str x

mutual
def RD (K : PySem.W.Frag) (r : Ad) (H : Hp) : D → V → Prop
  | .non, v => v = .non
  | .bl b, v => v = .bl b
  | .int i, v => v = .int i
  | .str x, v => v = .str x
  | .tup ds, v => ∃ a vs, v = .ref a ∧ SqT K H a vs ∧ RDs K r H ds vs
  | .lst ds, v => ∃ a vs, v = .ref a ∧ H a = some (.lst vs) ∧ r.out a ∧ RDs K r H ds vs
  | .dct ks ds, v => ∃ a kvs, v = .ref a ∧ H a = some (.dK kvs) ∧ r.out a ∧ ks = kvs.map (fun kv => kD kv.1) ∧ RDs K r H ds (kvs.map (·.2))
  | .ref n, v => ∃ a, r.r[n]? = some a ∧ v = .ref a
  | .cst c, v => v = c
def RDs (K : PySem.W.Frag) (r : Ad) (H : Hp) : List D → List V → Prop
  | [], vs => vs = []
  | d :: ds, vs => ∃ v r', vs = v :: r' ∧ RD K r H d v ∧ RDs K r H ds r'
end

/-- an object of the store, as it stands in the abstract heap -/
def RO (K : PySem.W.Frag) (r : Ad) (H : Hp) : Ob → Option HO → Prop
  | .lst ds, ho => ∃ vs, ho = some (.lst vs) ∧ RDs K r H ds vs
  | .flst ds, ho => ∃ o vs, ho = some (.frz o (.lst vs)) ∧ RDs K r H ds vs
  | .dct ks ds, ho => ∃ kvs, ho = some (.dK kvs) ∧ ks = kvs.map (fun kv => kD kv.1) ∧ RDs K r H ds (kvs.map (·.2))
structure Sim (K : PySem.W.Frag) (r : Ad) (H : Hp) (st : Store) : Prop where
  len : r.r.length = st.length
  nd : r.r.Nodup
  xs : ∀ a ∈ r.x, H a ≠ none ∧ a ∉ r.r
  ob : ∀ (i : Nat) (a : Addr) (o : Ob), r.r[i]? = some a → st[i]? = some o → RO K r H o (H a)
/-- the names' values -/
structure RE (K : PySem.W.Frag) (r : Ad) (H : Hp) (e : Env) (σ : St) : Prop where
  len : e.length = σ.length
  at' : ∀ (i : Nat) (d : D), e[i]? = some (some d) → ∃ v, σ[i]? = some (some v) ∧ RD K r H d v
/-- what is later: more objects, the others as they were -/
structure Ext (K : PySem.W.Frag) (r : Ad) (H : Hp) (r' : Ad) (H' : Hp) : Prop where
  x : r'.x = r.x
  pre : ∃ l, r'.r = r.r ++ l ∧ ∀ a ∈ l, H a = none
  keep : ∀ a o, H a = some o → a ∉ r.r → H' a = some o
  tup : ∀ a xs, SqT K H a xs → SqT K H' a xs

theorem ix_inj {N : List Addr} (hN : N.Nodup) {i j : Nat} {x : Addr} (a : N[i]? = some x) (b : N[j]? = some x) : i = j := by
  obtain ⟨h1, e1⟩ := List.getElem?_eq_some_iff.mp a
  obtain ⟨h2, e2⟩ := List.getElem?_eq_some_iff.mp b
  exact (List.getElem_inj hN).mp (e1.trans e2.symm)
section
variable {K : PySem.W.Frag} {r r' r1 r2 : Ad} {H H' H1 H2 : Hp} {st st' : Store} {σ : St} {e : Env}

theorem Ext.refl (K : PySem.W.Frag) (r : Ad) (H : Hp) : Ext K r H r H := ⟨rfl, ⟨[], by simp, by simp⟩, fun _ _ h _ => h, fun _ _ h => h⟩
theorem Ext.out (x : Ext K r H r' H') {a : Addr} {o : HO} (h : H a = some o) (n : r.out a) : r'.out a := by
  obtain ⟨l, e, hl⟩ := x.pre
  refine ⟨fun m => ?_, by rw [x.x]; exact n.2⟩
  rw [e] at m
  rcases List.mem_append.mp m with m | m
  · exact n.1 m
  · rw [hl a m] at h; cases h
theorem Ext.at_ (x : Ext K r H r' H') {n : Nat} {a : Addr} (h : r.r[n]? = some a) : r'.r[n]? = some a := by
  obtain ⟨l, e, _⟩ := x.pre
  rw [e, List.getElem?_append_left (List.getElem?_eq_some_iff.mp h).1]; exact h
theorem Ext.trans (x : Ext K r H r1 H1) (y : Ext K r1 H1 r2 H2) (nn : ∀ a, H a ≠ none → H1 a ≠ none) : Ext K r H r2 H2 := by
  obtain ⟨l, e, hl⟩ := x.pre
  obtain ⟨l2, e2, hl2⟩ := y.pre
  refine ⟨y.x.trans x.x, ⟨l ++ l2, by rw [e2, e, List.append_assoc], fun a m => ?_⟩, fun a o h n => y.keep a o (x.keep a o h n) ?_, fun a xs h => y.tup a xs (x.tup a xs h)⟩
  · rcases List.mem_append.mp m with m | m
    · exact hl a m
    · by_cases q : H a = none
      · exact q
      · exact absurd (hl2 a m) (nn a q)
  · rw [e]
    intro m
    rcases List.mem_append.mp m with m | m
    · exact n m
    · rw [hl a m] at h; cases h

mutual
theorem RD.mono (x : Ext K r H r' H') : ∀ {d : D} {v : V}, RD K r H d v → RD K r' H' d v
  | .non, _, h => by simpa only [RD] using h
  | .bl _, _, h => by simpa only [RD] using h
  | .int _, _, h => by simpa only [RD] using h
  | .str _, _, h => by simpa only [RD] using h
  | .cst _, _, h => by simpa only [RD] using h
  | .tup ds, v, h => by
    simp only [RD] at h ⊢
    obtain ⟨a, vs, e, s, q⟩ := h
    exact ⟨a, vs, e, x.tup a vs s, RDs.mono x q⟩
  | .lst ds, v, h => by
    simp only [RD] at h ⊢
    obtain ⟨a, vs, e, s, n, q⟩ := h
    exact ⟨a, vs, e, x.keep a _ s n.1, x.out s n, RDs.mono x q⟩
  | .dct ks ds, v, h => by
    simp only [RD] at h ⊢
    obtain ⟨a, kvs, e, s, n, k, q⟩ := h
    exact ⟨a, kvs, e, x.keep a _ s n.1, x.out s n, k, RDs.mono x q⟩
  | .ref n, v, h => by
    simp only [RD] at h ⊢
    obtain ⟨a, s, e⟩ := h
    exact ⟨a, x.at_ s, e⟩
theorem RDs.mono (x : Ext K r H r' H') : ∀ {ds : List D} {vs : List V}, RDs K r H ds vs → RDs K r' H' ds vs
  | [], _, h => by simpa only [RDs] using h
  | d :: ds, vs, h => by
    simp only [RDs] at h ⊢
    obtain ⟨v, r', e, a, b⟩ := h
    exact ⟨v, r', e, RD.mono x a, RDs.mono x b⟩
end
/-- the same facts for other addresses, another heap -/
structure Tr (K : PySem.W.Frag) (r : Ad) (H : Hp) (r' : Ad) (H' : Hp) : Prop where
  obj : ∀ a o, H a = some o → (∀ xs, o ≠ .tup xs) → r.out a → H' a = some o ∧ r'.out a
  at_ : ∀ (n : Nat) (a : Addr), r.r[n]? = some a → r'.r[n]? = some a
  tup : ∀ a xs, SqT K H a xs → SqT K H' a xs
mutual
theorem RD.tr (x : Tr K r H r' H') : ∀ {d : D} {v : V}, RD K r H d v → RD K r' H' d v
  | .non, _, h => by simpa only [RD] using h
  | .bl _, _, h => by simpa only [RD] using h
  | .int _, _, h => by simpa only [RD] using h
  | .str _, _, h => by simpa only [RD] using h
  | .cst _, _, h => by simpa only [RD] using h
  | .tup ds, v, h => by
    simp only [RD] at h ⊢
    obtain ⟨a, vs, e, s, q⟩ := h
    exact ⟨a, vs, e, x.tup a vs s, RDs.tr x q⟩
  | .lst ds, v, h => by
    simp only [RD] at h ⊢
    obtain ⟨a, vs, e, s, n, q⟩ := h
    obtain ⟨h1, h2⟩ := x.obj a _ s (fun _ z => by cases z) n
    exact ⟨a, vs, e, h1, h2, RDs.tr x q⟩
  | .dct ks ds, v, h => by
    simp only [RD] at h ⊢
    obtain ⟨a, kvs, e, s, n, k, q⟩ := h
    obtain ⟨h1, h2⟩ := x.obj a _ s (fun _ z => by cases z) n
    exact ⟨a, kvs, e, h1, h2, k, RDs.tr x q⟩
  | .ref n, v, h => by
    simp only [RD] at h ⊢
    obtain ⟨a, s, e⟩ := h
    exact ⟨a, x.at_ n a s, e⟩
theorem RDs.tr (x : Tr K r H r' H') : ∀ {ds : List D} {vs : List V}, RDs K r H ds vs → RDs K r' H' ds vs
  | [], _, h => by simpa only [RDs] using h
  | d :: ds, vs, h => by
    simp only [RDs] at h ⊢
    obtain ⟨v, r', e, a, b⟩ := h
    exact ⟨v, r', e, RD.tr x a, RDs.tr x b⟩
end
theorem Ext.tr (x : Ext K r H r' H') : Tr K r H r' H' := ⟨fun a o h _ n => ⟨x.keep a o h n.1, x.out h n⟩, fun _ _ => x.at_, x.tup⟩
theorem RE.tr (x : Tr K r H r' H') (h : RE K r H e σ) : RE K r' H' e σ := ⟨h.len, fun i d q => let ⟨v, a, b⟩ := h.at' i d q; ⟨v, a, b.tr x⟩⟩
theorem RE.mono (x : Ext K r H r' H') (h : RE K r H e σ) : RE K r' H' e σ := h.tr x.tr
theorem RDs.length : ∀ {ds : List D} {vs : List V}, RDs K r H ds vs → ds.length = vs.length
  | [], _, h => by simp only [RDs] at h; subst h; rfl
  | d :: ds, vs, h => by
    simp only [RDs] at h
    obtain ⟨v, r', rfl, _, b⟩ := h
    simp [RDs.length b]
theorem RDs.get : ∀ {ds : List D} {vs : List V} {i : Nat} {d : D}, RDs K r H ds vs → ds[i]? = some d → ∃ v, vs[i]? = some v ∧ RD K r H d v
  | [], _, _, _, _, e => by simp at e
  | d :: ds, vs, 0, _, h, e => by
    simp only [RDs] at h
    obtain ⟨v, r', rfl, a, b⟩ := h
    simp at e; subst e
    exact ⟨v, rfl, a⟩
  | d :: ds, vs, i + 1, _, h, e => by
    simp only [RDs] at h
    obtain ⟨v, r', rfl, a, b⟩ := h
    obtain ⟨w, h1, h2⟩ := RDs.get (i := i) b (by simpa using e)
    exact ⟨w, by simpa using h1, h2⟩
theorem RDs.got : ∀ {ds : List D} {vs : List V} {i : Nat} {v : V}, RDs K r H ds vs → vs[i]? = some v → ∃ d, ds[i]? = some d ∧ RD K r H d v
  | [], _, _, _, h, e => by simp only [RDs] at h; subst h; simp at e
  | d :: ds, vs, 0, _, h, e => by
    simp only [RDs] at h
    obtain ⟨v, r', rfl, a, b⟩ := h
    simp at e; subst e
    exact ⟨d, rfl, a⟩
  | d :: ds, vs, i + 1, _, h, e => by
    simp only [RDs] at h
    obtain ⟨v, r', rfl, a, b⟩ := h
    obtain ⟨w, h1, h2⟩ := RDs.got (i := i) b (by simpa using e)
    exact ⟨w, by simpa using h1, h2⟩
theorem RDs.nil : RDs K r H [] [] := by simp only [RDs]
theorem RDs.cons {d : D} {v : V} {ds : List D} {vs : List V} (h : RD K r H d v) (t : RDs K r H ds vs) : RDs K r H (d :: ds) (v :: vs) := by
  simp only [RDs]; exact ⟨v, vs, rfl, h, t⟩
theorem RDs.append : ∀ {ds es : List D} {vs ws : List V}, RDs K r H ds vs → RDs K r H es ws → RDs K r H (ds ++ es) (vs ++ ws)
  | [], _, _, _, h, t => by simp only [RDs] at h; subst h; simpa using t
  | d :: ds, _, vs, _, h, t => by
    simp only [RDs] at h
    obtain ⟨v, r', rfl, a, b⟩ := h
    exact RDs.cons a (RDs.append b t)
theorem RDs.take : ∀ {ds : List D} {vs : List V} (n : Nat), RDs K r H ds vs → RDs K r H (ds.take n) (vs.take n)
  | _, _, 0, _ => by simp [RDs]
  | [], _, _ + 1, h => by simp only [RDs] at h; subst h; simp [RDs]
  | d :: ds, _, n + 1, h => by
    simp only [RDs] at h
    obtain ⟨v, r', rfl, a, b⟩ := h
    exact RDs.cons a (RDs.take n b)
theorem RDs.drop : ∀ {ds : List D} {vs : List V} (n : Nat), RDs K r H ds vs → RDs K r H (ds.drop n) (vs.drop n)
  | _, _, 0, h => h
  | [], _, _ + 1, h => by simp only [RDs] at h; subst h; simp [RDs]
  | d :: ds, _, n + 1, h => by
    simp only [RDs] at h
    obtain ⟨v, r', rfl, a, b⟩ := h
    exact RDs.drop n b
theorem RDs.set {d : D} {v : V} (h : RD K r H d v) : ∀ {ds : List D} {vs : List V} (n : Nat), RDs K r H ds vs → RDs K r H (ds.set n d) (vs.set n v)
  | [], _, _, q => by simp only [RDs] at q; subst q; simp [RDs]
  | e :: ds, _, 0, q => by
    simp only [RDs] at q
    obtain ⟨w, r', rfl, a, b⟩ := q
    exact RDs.cons h b
  | e :: ds, _, n + 1, q => by
    simp only [RDs] at q
    obtain ⟨w, r', rfl, a, b⟩ := q
    exact RDs.cons a (RDs.set h n b)
theorem RDs.reverse : ∀ {ds : List D} {vs : List V}, RDs K r H ds vs → RDs K r H ds.reverse vs.reverse
  | [], _, h => by simp only [RDs] at h; subst h; simp [RDs]
  | d :: ds, _, h => by
    simp only [RDs] at h
    obtain ⟨v, r', rfl, a, b⟩ := h
    rw [List.reverse_cons, List.reverse_cons]
    exact RDs.append (RDs.reverse b) (RDs.cons a RDs.nil)

theorem RE.set (h : RE K r H e σ) {i : Nat} {d : D} {v : V} (q : RD K r H d v) : RE K r H (e.set i (some d)) (σ.set i (some v)) := by
  refine ⟨by simp [h.len], fun j d' e' => ?_⟩
  by_cases hj : i = j
  · subst hj
    by_cases hi : i < e.length
    · rw [List.getElem?_set_self hi] at e'
      cases e'
      exact ⟨v, List.getElem?_set_self (by rw [← h.len]; exact hi), q⟩
    · rw [List.getElem?_eq_none (by simpa using hi)] at e'
      cases e'
  · rw [List.getElem?_set_ne hj] at e'
    obtain ⟨w, a, b⟩ := h.at' j d' e'
    exact ⟨w, by rw [List.getElem?_set_ne hj]; exact a, b⟩
theorem RE.start {N : List Str} {ds : List D} {vs : List V} (h : RDs K r H ds vs) : RE K r H (ds.map some ++ List.replicate (N.length - ds.length) none) (L2.start N vs) := by
  refine ⟨by unfold L2.start; simp [h.length], fun i d e' => ?_⟩
  unfold L2.start
  by_cases hi : i < ds.length
  · rw [List.getElem?_append_left (by simpa using hi), List.getElem?_map] at e'
    cases q : ds[i]? with
    | none => rw [q] at e'; cases e'
    | some d' =>
      rw [q] at e'
      cases e'
      obtain ⟨v, h1, h2⟩ := h.get q
      refine ⟨v, ?_, h2⟩
      rw [List.getElem?_append_left (by simpa [← h.length] using hi), List.getElem?_map, h1]
      rfl
  · rw [List.getElem?_append_right (by simpa using hi), List.getElem?_replicate] at e'
    split at e' <;> cases e'

theorem RO.tr {o : Ob} {ho : Option HO} (x : Tr K r H r' H') (q : RO K r H o ho) : RO K r' H' o ho := by
  cases o with
  | lst ds => obtain ⟨vs, e, t⟩ := q; exact ⟨vs, e, t.tr x⟩
  | flst ds => obtain ⟨o, vs, e, t⟩ := q; exact ⟨o, vs, e, t.tr x⟩
  | dct ks ds => obtain ⟨kvs, e, k, t⟩ := q; exact ⟨kvs, e, k, t.tr x⟩
theorem RO.mono {o : Ob} {ho : Option HO} (x : Ext K r H r' H') (q : RO K r H o ho) : RO K r' H' o ho := q.tr x.tr
theorem Sim.ex (S : Sim K r H st) {i : Nat} {a : Addr} (h : r.r[i]? = some a) : ∃ o, st[i]? = some o ∧ RO K r H o (H a) := by
  have hi : i < st.length := by rw [← S.len]; exact (List.getElem?_eq_some_iff.mp h).1
  exact ⟨st[i], by simp [hi], S.ob i a _ h (by simp [hi])⟩
/-- an object of the store: where it stands -/
theorem Sim.at_ (S : Sim K r H st) {n : Nat} {v : V} {o : Ob} (h : RD K r H (.ref n) v) (e : st[n]? = some o) : ∃ a, v = .ref a ∧ r.r[n]? = some a ∧ RO K r H o (H a) := by
  simp only [RD] at h
  obtain ⟨a, h1, h2⟩ := h
  exact ⟨a, h2, h1, S.ob n a o h1 e⟩
theorem RO.isSome {o : Ob} {a : Addr} (h : RO K r H o (H a)) : H a ≠ none := by
  cases o with
  | lst ds => obtain ⟨vs, e, _⟩ := h; rw [e]; simp
  | flst ds => obtain ⟨o, vs, e, _⟩ := h; rw [e]; simp
  | dct ks ds => obtain ⟨kvs, e, _⟩ := h; rw [e]; simp
theorem Sim.there (S : Sim K r H st) {a : Addr} (h : a ∈ r.r) : H a ≠ none := by
  obtain ⟨i, e⟩ := List.getElem?_of_mem h
  obtain ⟨o, _, q⟩ := S.ex e
  exact q.isSome
theorem Sim.notin (S : Sim K r H st) {a : Addr} (h : H a = none) : r.out a := ⟨fun m => S.there m h, fun m => (S.xs a m).1 h⟩
theorem Sim.notup (S : Sim K r H st) {a : Addr} {xs : List V} (h : Rd H a (.tup xs)) : a ∉ r.r := fun m => by
  obtain ⟨i, e⟩ := List.getElem?_of_mem m
  obtain ⟨o, _, q⟩ := S.ex e
  cases o with
  | lst ds =>
    obtain ⟨vs, e, _⟩ := q
    rcases h with h | ⟨o, h⟩ <;> (rw [e] at h; cases h)
  | flst ds =>
    obtain ⟨o, vs, e, _⟩ := q
    rcases h with h | ⟨o, h⟩ <;> (rw [e] at h; cases h)
  | dct ks ds =>
    obtain ⟨kvs, e, _⟩ := q
    rcases h with h | ⟨o, h⟩ <;> (rw [e] at h; cases h)
theorem Sim.tups (S : Sim K r H st) (keep : ∀ a o, H a = some o → a ∉ r.r → H' a = some o) (a : Addr) (xs : List V) (h : SqT K H a xs) : SqT K H' a xs := by
  rcases h with h | h
  · have n := S.notup h
    rcases h with h | ⟨o, h⟩
    · exact .inl (.inl (keep a _ h n))
    · exact .inl (.inr ⟨o, keep a _ h n⟩)
  · exact .inr h
/-- the objects alone are later -/
theorem Sim.ext (S : Sim K r H st) (hx : r'.x = r.x) (pre : ∃ l, r'.r = r.r ++ l ∧ ∀ a ∈ l, H a = none) (keep : ∀ a o, H a = some o → a ∉ r.r → H' a = some o) : Ext K r H r' H' := ⟨hx, pre, keep, S.tups keep⟩
/-- one state behind the other -/
theorem Ext.trans' (S : Sim K r H st) (S1 : Sim K r1 H1 st') (x : Ext K r H r1 H1) (y : Ext K r1 H1 r2 H2) : Ext K r H r2 H2 := by
  refine x.trans y fun a h => ?_
  by_cases m : a ∈ r.r
  · obtain ⟨l, e, _⟩ := x.pre
    exact S1.there (by rw [e]; exact List.mem_append_left _ m)
  · cases q : H a with
    | none => exact absurd q h
    | some o => rw [x.keep a o q m]; simp

/-- a new thing that is no object of the store: a tuple, a list of its own -/
theorem Sim.side (S : Sim K r H st) {p : Addr} {o : HO} (h : H p = none) : Sim K r (upd H p o) st ∧ Ext K r H r (upd H p o) := by
  have x : Ext K r H r (upd H p o) := S.ext rfl ⟨[], by simp, by simp⟩ fun a u e _ => by
    rw [upd_ne (ne_of_none e h)]; exact e
  refine ⟨⟨S.len, S.nd, fun a m => ?_, fun i a ob e1 e2 => ?_⟩, x⟩
  · have na : a ≠ p := fun z => (S.xs a m).1 (z ▸ h)
    rw [upd_ne na]
    exact S.xs a m
  · have q := S.ob i a ob e1 e2
    have na : a ≠ p := fun z => S.there (List.mem_of_getElem? e1) (z ▸ h)
    rw [upd_ne na]
    exact q.mono x
/-- a new object of the store -/
theorem Sim.new (S : Sim K r H st) {p : Addr} {o : HO} {ob : Ob} (h : H p = none) (q : RO K r H ob (some o)) : Sim K ⟨r.r ++ [p], r.x⟩ (upd H p o) (st ++ [ob]) ∧ Ext K r H ⟨r.r ++ [p], r.x⟩ (upd H p o) := by
  have x : Ext K r H ⟨r.r ++ [p], r.x⟩ (upd H p o) := S.ext rfl ⟨[p], rfl, by simp [h]⟩ fun a u e _ => by
    rw [upd_ne (ne_of_none e h)]; exact e
  refine ⟨⟨by simp [S.len], ?_, fun a m => ?_, fun i a ob' e1 e2 => ?_⟩, x⟩
  · show (r.r ++ [p]).Nodup
    rw [List.nodup_append]
    refine ⟨S.nd, by simp, fun a ha b hb => ?_⟩
    simp at hb
    subst hb
    intro z; subst z
    exact S.there ha h
  · have na : a ≠ p := fun z => (S.xs a m).1 (z ▸ h)
    rw [upd_ne na]
    refine ⟨(S.xs a m).1, fun z => ?_⟩
    rcases List.mem_append.mp z with z | z
    · exact (S.xs a m).2 z
    · simp at z; exact na z
  · replace e1 : (r.r ++ [p])[i]? = some a := e1
    by_cases hi : i < r.r.length
    · rw [List.getElem?_append_left hi] at e1
      rw [List.getElem?_append_left (by rw [← S.len]; exact hi)] at e2
      have na : a ≠ p := fun z => S.there (List.mem_of_getElem? e1) (z ▸ h)
      rw [upd_ne na]
      exact (S.ob i a ob' e1 e2).mono x
    · have hi' : i = r.r.length := by
        have := (List.getElem?_eq_some_iff.mp e1).1
        simp at this; omega
      subst hi'
      simp at e1
      subst e1
      rw [S.len] at e2
      simp at e2
      subst e2
      rw [upd_same]
      exact q.mono x
/-- an object of the store is changed -/
theorem Sim.put (S : Sim K r H st) {n : Nat} {p : Addr} {o : HO} {ob : Ob} (hn : r.r[n]? = some p) (q : RO K r H ob (some o)) : Sim K r (upd H p o) (st.set n ob) ∧ Ext K r H r (upd H p o) := by
  have mp : p ∈ r.r := List.mem_of_getElem? hn
  have x : Ext K r H r (upd H p o) := S.ext rfl ⟨[], by simp, by simp⟩ fun a u e m => by
    rw [upd_ne (fun z => m (by rw [z]; exact mp))]; exact e
  refine ⟨⟨by simp [S.len], S.nd, fun a m => ?_, fun i a ob' e1 e2 => ?_⟩, x⟩
  · have na : a ≠ p := fun z => (S.xs a m).2 (by rw [z]; exact mp)
    rw [upd_ne na]
    exact S.xs a m
  · by_cases hi : n = i
    · subst hi
      have ea : p = a := by rw [hn] at e1; exact Option.some.inj e1
      subst ea
      have hl : n < st.length := by rw [← S.len]; exact (List.getElem?_eq_some_iff.mp hn).1
      rw [List.getElem?_set_self hl] at e2
      cases e2
      rw [upd_same]
      exact q.mono x
    · rw [List.getElem?_set_ne hi] at e2
      have na : a ≠ p := fun z => by
        subst z
        exact hi (ix_inj S.nd hn e1)
      rw [upd_ne na]
      exact (S.ob i a ob' e1 e2).mono x

/-! ### a list (a dict) that is being made: it stands at p, nobody sees it -/
/-- it begins -/
theorem Sim.hide (S : Sim K r H st) {p : Addr} {o : HO} (h : H p = none) : Sim K ⟨r.r, p :: r.x⟩ (upd H p o) st ∧ Tr K r H ⟨r.r, p :: r.x⟩ (upd H p o) := by
  have keep : ∀ a u, H a = some u → upd H p o a = some u := fun a u e => by rw [upd_ne (ne_of_none e h)]; exact e
  have x : Tr K r H ⟨r.r, p :: r.x⟩ (upd H p o) := ⟨fun a u e _ n => ⟨keep a u e, n.1, fun m => by
    rcases List.mem_cons.mp m with m | m
    · subst m; rw [h] at e; cases e
    · exact n.2 m⟩, fun _ _ z => z, S.tups fun a u e _ => keep a u e⟩
  refine ⟨⟨S.len, S.nd, fun a m => ?_, fun i a ob e1 e2 => ?_⟩, x⟩
  · rcases List.mem_cons.mp m with m | m
    · subst m
      exact ⟨by rw [upd_same]; simp, (S.notin h).1⟩
    · have na : a ≠ p := fun z => (S.xs a m).1 (z ▸ h)
      rw [upd_ne na]
      exact S.xs a m
  · have q := S.ob i a ob e1 e2
    have na : a ≠ p := fun z => S.there (List.mem_of_getElem? e1) (z ▸ h)
    rw [upd_ne na]
    exact q.tr x
/-- it grows -/
theorem Sim.grow (S : Sim K r H st) {p : Addr} {o : HO} {u : HO} (m : p ∈ r.x) (hu : H p = some u) (nt : ∀ xs, ¬ Rd H p (.tup xs)) : Sim K r (upd H p o) st ∧ Tr K r H r (upd H p o) := by
  have ne : ∀ a, r.out a → a ≠ p := fun a n z => n.2 (by rw [z]; exact m)
  have x : Tr K r H r (upd H p o) := ⟨fun a w e _ n => ⟨by rw [upd_ne (ne a n)]; exact e, n⟩, fun _ _ z => z, fun a xs h => by
    rcases h with h | h
    · have na : a ≠ p := fun z => nt xs (z ▸ h)
      refine .inl ?_
      rcases h with h | ⟨w, h⟩
      · exact .inl (by rw [upd_ne na]; exact h)
      · exact .inr ⟨w, by rw [upd_ne na]; exact h⟩
    · exact .inr h⟩
  refine ⟨⟨S.len, S.nd, fun a ma => ?_, fun i a ob e1 e2 => ?_⟩, x⟩
  · by_cases na : a = p
    · subst na
      exact ⟨by rw [upd_same]; simp, (S.xs a ma).2⟩
    · rw [upd_ne na]
      exact S.xs a ma
  · have na : a ≠ p := fun z => (S.xs p m).2 (by rw [← z]; exact List.mem_of_getElem? e1)
    rw [upd_ne na]
    exact (S.ob i a ob e1 e2).tr x
/-- it is done: a value -/
theorem Sim.bare {l x : List Addr} {p : Addr} (S : Sim K ⟨l, p :: x⟩ H st) : Sim K ⟨l, x⟩ H st ∧ Tr K ⟨l, p :: x⟩ H ⟨l, x⟩ H := by
  have t : Tr K ⟨l, p :: x⟩ H ⟨l, x⟩ H := ⟨fun a u e _ n => ⟨e, n.1, fun m => n.2 (List.mem_cons_of_mem _ m)⟩, fun _ _ z => z, fun _ _ z => z⟩
  exact ⟨⟨S.len, S.nd, fun a m => S.xs a (List.mem_cons_of_mem _ m), fun i a o e1 e2 => (S.ob i a o e1 e2).tr t⟩, t⟩
/-- it is done: an object of the store -/
theorem Sim.join {l x : List Addr} {p : Addr} {ob : Ob} (S : Sim K ⟨l, p :: x⟩ H st) (nx : p ∉ x) (q : RO K ⟨l, p :: x⟩ H ob (H p)) : Sim K ⟨l ++ [p], x⟩ H (st ++ [ob]) ∧ Tr K ⟨l, p :: x⟩ H ⟨l ++ [p], x⟩ H := by
  have t : Tr K ⟨l, p :: x⟩ H ⟨l ++ [p], x⟩ H := ⟨fun a u e _ n => ⟨e, fun m => by
    rcases List.mem_append.mp m with m | m
    · exact n.1 m
    · simp at m; exact n.2 (by rw [m]; exact List.mem_cons_self), fun m => n.2 (List.mem_cons_of_mem _ m)⟩, fun n a z => by
      show (l ++ [p])[n]? = some a
      rw [List.getElem?_append_left (List.getElem?_eq_some_iff.mp z).1]; exact z, fun _ _ z => z⟩
  have np : p ∉ l := (S.xs p List.mem_cons_self).2
  have ll : l.length = st.length := S.len
  refine ⟨⟨by simp [ll], ?_, fun a m => ?_, fun i a o e1 e2 => ?_⟩, t⟩
  · show (l ++ [p]).Nodup
    rw [List.nodup_append]
    refine ⟨S.nd, by simp, fun a ha b hb => ?_⟩
    simp at hb
    subst hb
    intro z; subst z
    exact np ha
  · refine ⟨(S.xs a (List.mem_cons_of_mem _ m)).1, fun z => ?_⟩
    rcases List.mem_append.mp z with z | z
    · exact (S.xs a (List.mem_cons_of_mem _ m)).2 z
    · simp at z; subst z; exact nx m
  · replace e1 : (l ++ [p])[i]? = some a := e1
    by_cases hi : i < l.length
    · rw [List.getElem?_append_left hi] at e1
      rw [List.getElem?_append_left (by rw [← ll]; exact hi)] at e2
      exact (S.ob i a o e1 e2).tr t
    · have hi' : i = l.length := by
        have := (List.getElem?_eq_some_iff.mp e1).1
        simp at this; omega
      subst hi'
      simp at e1
      subst e1
      rw [ll] at e2
      simp at e2
      subst e2
      exact q.tr t
/-- fewer objects -/
theorem Sim.take (S : Sim K r H st) (n : Nat) (hn : ∀ (i : Nat) (o : Ob), i < n → st[i]? = some o → ∀ ho, RO K r H o ho → RO K ⟨r.r.take n, r.x⟩ H o ho) : Sim K ⟨r.r.take n, r.x⟩ H (st.take n) := by
  refine ⟨by simp [S.len], S.nd.sublist (List.take_sublist _ _), fun a m => ⟨(S.xs a m).1, fun z => (S.xs a m).2 (List.mem_of_mem_take z)⟩, fun i a o e1 e2 => ?_⟩
  have hi : i < n := by
    have := (List.getElem?_eq_some_iff.mp e1).1
    simp at this; omega
  replace e1 : (r.r.take n)[i]? = some a := e1
  rw [List.getElem?_take_of_lt hi] at e1 e2
  exact hn i o hi e2 _ (S.ob i a o e1 e2)
end
end FW

set_option maxHeartbeats 4000000
namespace FW
open PySem L2

/-- what is wanted of an exception -/
abbrev EWt := Exn → L2.St → Ad → Hp → Prop
abbrev noX : EWt := fun _ _ _ _ => False

def Post {α β : Type} (K : PySem.W.Frag) (R : Ad → Hp → α → β → Prop) (EW : EWt) (σ : L2.St) (r : Ad) (H : Hp) (st' : Store) (Q : β → Hp → Prop) : Res α → Prop
  | .ok a => ∀ r' H' b, Sim K r' H' st' → Ext K r H r' H' → R r' H' a b → Q b H'
  | .exc x => ∀ r' H', Sim K r' H' st' → Ext K r H r' H' → EW x σ r' H'
def tX {α β : Type} (K : PySem.W.Frag) (R : Ad → Hp → α → β → Prop) (EW : EWt) (m : M α) : L2.St → Hp → (β → Hp → Prop) → Prop := fun σ H Q =>
  ∃ r e st out st', Sim K r H st ∧ RE K r H e σ ∧ m e st = some (out, st') ∧ Post K R EW σ r H st' Q out
def REq {α : Type} : Ad → Hp → α → α → Prop := fun _ _ a b => a = b
abbrev tE (K : PySem.W.Frag) (EW : EWt) (m : M D) : TE := tX K (RD K) EW m
abbrev tA (K : PySem.W.Frag) (EW : EWt) (m : M (List D)) : TA := tX K (RDs K) EW m
abbrev tT (K : PySem.W.Frag) (EW : EWt) (m : M Bool) : TT := tX K REq EW m

def bnd {α β : Type} (o : Option (Res α × Store)) (k : α → Store → Option (Res β × Store)) : Option (Res β × Store) :=
  match o with
  | some (.ok a, st) => k a st
  | some (.exc x, st) => some (.exc x, st)
  | none => none
def xbnd {α β : Type} (m : M α) (k : α → M β) : M β := fun e st => bnd (m e st) fun a st1 => k a e st1

section
variable {K : PySem.W.Frag} {EW : EWt} {α β γ δ : Type} {R : Ad → Hp → α → β → Prop} {R' : Ad → Hp → γ → δ → Prop} {r r' r1 : Ad} {H H' H1 : Hp} {st st' st1 : Store} {σ : L2.St} {e : Env}

theorem Post.later {Q : δ → Hp → Prop} {out : Res γ} (S : Sim K r H st) (S1 : Sim K r1 H1 st1) (x : Ext K r H r1 H1) (P : Post K R' EW σ r H st' Q out) : Post K R' EW σ r1 H1 st' Q out := by
  cases out with
  | ok a => exact fun r' H' b S' y => P r' H' b S' (x.trans' S S1 y)
  | exc a => exact fun r' H' S' y => P r' H' S' (x.trans' S S1 y)
theorem bnd_step {m : M α} {k : α → Store → Option (Res γ × Store)} {out : Res γ} {Q : δ → Hp → Prop} {Q1 : β → Hp → Prop} (S : Sim K r H st) (hE : RE K r H e σ) (h : bnd (m e st) k = some (out, st')) (P : Post K R' EW σ r H st' Q out)
    (next : ∀ r1 H1 b a st1, Sim K r1 H1 st1 → Ext K r H r1 H1 → RE K r1 H1 e σ → R r1 H1 a b → k a st1 = some (out, st') → Post K R' EW σ r1 H1 st' Q out → Q1 b H1) : tX K R EW m σ H Q1 := by
  cases q : m e st with
  | none => rw [q] at h; cases h
  | some p =>
    obtain ⟨o, st1⟩ := p
    rw [q] at h
    cases o with
    | ok a => exact ⟨r, e, st, .ok a, st1, S, hE, q, fun r1 H1 b S1 x hR => next r1 H1 b a st1 S1 x (hE.mono x) hR h (P.later S S1 x)⟩
    | exc x =>
      simp only [bnd, Option.some.injEq, Prod.mk.injEq] at h
      obtain ⟨rfl, rfl⟩ := h
      exact ⟨r, e, st, .exc x, st1, S, hE, q, P⟩
theorem tX.mono {m : M α} {Q Q' : β → Hp → Prop} (h : tX K R EW m σ H Q) (w : ∀ b H1, Q b H1 → Q' b H1) : tX K R EW m σ H Q' := by
  obtain ⟨r, e, st, out, st', S, hE, q, P⟩ := h
  refine ⟨r, e, st, out, st', S, hE, q, ?_⟩
  cases out with
  | ok a => exact fun r' H' b S' y hR => w _ _ (P r' H' b S' y hR)
  | exc a => exact P
end

/-! ### expressions -/
def E (X : Cx) (EW : EWt) (e : Expr) (m : M D) : Prop := PE X e (tE X.K EW m)
def T (X : Cx) (EW : EWt) (e : Expr) (m : M Bool) : Prop := PT X e (tT X.K EW m)
def TW (X : Cx) (EW : EWt) (e : Expr) (m : M Bool) : Prop := PW X e (tT X.K EW m)
def As (X : Cx) (EW : EWt) (es : List Expr) (m : M (List D)) : Prop := PA X es (tA X.K EW m)

theorem PE.weak {X : Cx} {e : Expr} {t t' : TE} (h : PE X e t) (w : ∀ σ H Q, t' σ H Q → t σ H Q) : PE X e t' := ⟨fun pins s σ H Q I q => h.run pins s σ H Q I (w σ H Q q)⟩
theorem PT.weak {X : Cx} {e : Expr} {t t' : TT} (h : PT X e t) (w : ∀ σ H Q, t' σ H Q → t σ H Q) : PT X e t' := ⟨fun pins s σ H Q I q => h.run pins s σ H Q I (w σ H Q q)⟩
theorem PW.weak {X : Cx} {e : Expr} {t t' : TT} (h : PW X e t) (w : ∀ σ H Q, t' σ H Q → t σ H Q) : PW X e t' := ⟨fun whole pins s σ H Q I q => h.run whole pins s σ H Q I (w σ H Q q)⟩
theorem PA.weak {X : Cx} {e : List Expr} {t t' : TA} (h : PA X e t) (w : ∀ σ H Q, t' σ H Q → t σ H Q) : PA X e t' := ⟨fun pos pins s σ H Q I q => h.run pos pins s σ H Q I (w σ H Q q)⟩
theorem PS.weak {X : Cx} {e : Stmt} {t t' : TS} (h : PS X e t) (w : ∀ D σ H, t' D σ H → t D σ H) : PS X e t' := ⟨fun pins s σ H Q I q => h.run pins s σ H Q I (w Q σ H q)⟩
theorem PSs.weak {X : Cx} {e : List Stmt} {t t' : TS} (h : PSs X e t) (w : ∀ D σ H, t' D σ H → t D σ H) : PSs X e t' := ⟨fun pins s σ H Q I q => h.run pins s σ H Q I (w Q σ H q)⟩

/-- a name -/
def xV (i : Nat) : M D := fun e st => match e[i]? with
  | some (some d) => some (.ok d, st)
  | _ => none
/-- a value -/
def xC (d : D) : M D := fun _ st => some (.ok d, st)
/-- what raises nothing -/
def ok0 {α : Type} : Option (α × Store) → Option (Res α × Store)
  | some (a, st) => some (.ok a, st)
  | none => none
abbrev F1 := D → Store → Option (D × Store)
abbrev F2 := D → D → Store → Option (D × Store)
abbrev Fn0 := List D → Store → Option (D × Store)
def x1 (f : F1) (a : M D) : M D := xbnd a fun d _ st => ok0 (f d st)
def x2 (f : F2) (a b : M D) : M D := xbnd a fun d => xbnd b fun c _ st => ok0 (f d c st)
/-- a call by values -/
def xN (F : Fn0) (as : M (List D)) : M D := xbnd as fun ds _ st => ok0 (F ds st)
def aN : M (List D) := fun _ st => some (.ok [], st)
def aC (a : M D) (as : M (List D)) : M (List D) := xbnd a fun d => xbnd as fun ds _ st => some (.ok (d :: ds), st)
def xTup (as : M (List D)) : M D := xbnd as fun ds _ st => if ds.length ≤ sizeLine then some (.ok (.tup ds), st) else none
/-- a list, made here -/
def xLst (as : M (List D)) : M Ob := xbnd as fun ds _ st => if ds.length ≤ sizeLine then some (.ok (.lst ds), st) else none
/-- what was made here: a value that nobody changes | an object of the store -/
def xVal (a : M Ob) : M D := xbnd a fun o _ st => match o with
  | .lst ds => some (.ok (.lst ds), st)
  | .dct ks ds => some (.ok (.dct ks ds), st)
  | .flst _ => none
def xNew (a : M Ob) : M D := xbnd a fun o _ st => some (.ok (.ref st.length), st ++ [o])

/-- a thing that is made here and stands at p, not seen by any other -/
def PostF (K : PySem.W.Frag) (EW : EWt) (σ : L2.St) (r : Ad) (H : Hp) (st' : Store) (Q : VK) : Res Ob → Prop
  | .ok ob => ∀ r' H' p, Sim K ⟨r'.r, p :: r'.x⟩ H' st' → Ext K r H r' H' → p ∉ r'.x → RO K ⟨r'.r, p :: r'.x⟩ H' ob (H' p) → H p = none → Q (.ref p) H'
  | .exc x => ∀ r' H', Sim K r' H' st' → Ext K r H r' H' → EW x σ r' H'
def tF (K : PySem.W.Frag) (EW : EWt) (m : M Ob) : TE := fun σ H Q =>
  ∃ r e st out st', Sim K r H st ∧ RE K r H e σ ∧ m e st = some (out, st') ∧ PostF K EW σ r H st' Q out
def EF (X : Cx) (EW : EWt) (e : Expr) (m : M Ob) : Prop := PE X e (tF X.K EW m)
section
variable {K : PySem.W.Frag} {EW : EWt} {γ δ : Type} {R' : Ad → Hp → γ → δ → Prop} {r r' r1 : Ad} {H H' H1 : Hp} {st st' st1 : Store} {σ : L2.St} {e : Env}
theorem fresh_back (S : Sim K r H st) (S1 : Sim K r1 H1 st1) (x : Ext K r H r1 H1) {p : Addr} (h : H1 p = none) : H p = none := by
  cases q : H p with
  | none => rfl
  | some o =>
    by_cases m : p ∈ r.r
    · obtain ⟨l, e, _⟩ := x.pre
      exact absurd h (S1.there (by rw [e]; exact List.mem_append_left _ m))
    · rw [x.keep p o q m] at h; cases h
theorem bnd_stepF {m : M Ob} {k : Ob → Store → Option (Res γ × Store)} {out : Res γ} {Q : δ → Hp → Prop} {Q1 : VK} (S : Sim K r H st) (hE : RE K r H e σ) (h : bnd (m e st) k = some (out, st')) (P : Post K R' EW σ r H st' Q out)
    (next : ∀ r1 H1 p ob st1, Sim K ⟨r1.r, p :: r1.x⟩ H1 st1 → Ext K r H r1 H1 → p ∉ r1.x → RO K ⟨r1.r, p :: r1.x⟩ H1 ob (H1 p) → H p = none → k ob st1 = some (out, st') → Q1 (.ref p) H1) : tF K EW m σ H Q1 := by
  cases q : m e st with
  | none => rw [q] at h; cases h
  | some p =>
    obtain ⟨o, st1⟩ := p
    rw [q] at h
    cases o with
    | ok a => exact ⟨r, e, st, .ok a, st1, S, hE, q, fun r1 H1 p S1 x nx hR hp => next r1 H1 p a st1 S1 x nx hR hp h⟩
    | exc x =>
      simp only [bnd, Option.some.injEq, Prod.mk.injEq] at h
      obtain ⟨rfl, rfl⟩ := h
      exact ⟨r, e, st, .exc x, st1, S, hE, q, P⟩
/-- the same ahead of a thing made here -/
theorem bnd_stepO {α β : Type} {R : Ad → Hp → α → β → Prop} {m : M α} {k : α → Store → Option (Res Ob × Store)} {out : Res Ob} {Q : VK} {Q1 : β → Hp → Prop} (S : Sim K r H st) (hE : RE K r H e σ) (h : bnd (m e st) k = some (out, st')) (P : PostF K EW σ r H st' Q out)
    (next : ∀ r1 H1 b a st1, Sim K r1 H1 st1 → Ext K r H r1 H1 → RE K r1 H1 e σ → R r1 H1 a b → k a st1 = some (out, st') → Q1 b H1) : tX K R EW m σ H Q1 := by
  cases q : m e st with
  | none => rw [q] at h; cases h
  | some p =>
    obtain ⟨o, st1⟩ := p
    rw [q] at h
    cases o with
    | ok a => exact ⟨r, e, st, .ok a, st1, S, hE, q, fun r1 H1 b S1 x hR => next r1 H1 b a st1 S1 x (hE.mono x) hR h⟩
    | exc x =>
      simp only [bnd, Option.some.injEq, Prod.mk.injEq] at h
      obtain ⟨rfl, rfl⟩ := h
      exact ⟨r, e, st, .exc x, st1, S, hE, q, P⟩
theorem PostF.later {Q : VK} {out : Res Ob} (S : Sim K r H st) (S1 : Sim K r1 H1 st1) (x : Ext K r H r1 H1) (P : PostF K EW σ r H st' Q out) : PostF K EW σ r1 H1 st' Q out := by
  cases out with
  | exc y => exact fun r' H' S' z => P r' H' S' (x.trans' S S1 z)
  | ok ob => exact fun r' H' p S' z nx q hp => P r' H' p S' (x.trans' S S1 z) nx q (fresh_back S S1 x hp)
/-- laid at once -/
theorem PostF.lay {Q : VK} {ob : Ob} {o : HO} {p : Addr} (S : Sim K r H st) (S1 : Sim K r1 H1 st1) (x1 : Ext K r H r1 H1) (P : PostF K EW σ r H st1 Q (.ok ob)) (hp : H1 p = none) (q : RO K r1 H1 ob (some o)) : Q (.ref p) (upd H1 p o) := by
  obtain ⟨S2, t2⟩ := S1.hide (o := o) hp
  obtain ⟨_, x2⟩ := S1.side (o := o) hp
  refine P r1 _ p S2 (x1.trans' S S1 x2) (S1.notin hp).2 ?_ (fresh_back S S1 x1 hp)
  rw [upd_same]
  exact q.tr t2
end

section
variable {X : Cx} {EW : EWt}
theorem e_var (i : Nat) {x : Str} {pos : Pos} (hN : X.N[i]? = some x := by rfl) (hv : Vis X.env.scope x := by first | exact Or.inl rfl | exact Or.inr (Or.inl rfl) | exact Or.inr (Or.inr rfl)) (hd : (x == ("__debug__" : Str)) = false := by decide)
    (hcd : (x == ("__classdict__" : Str)) = false := by decide) : E X EW (.Name x pos) (xV i) := by
  refine PE.weak (pe_var hN hv hd hcd) ?_
  rintro σ H Q ⟨r, e, st, out, st', S, hE, h, P⟩
  unfold xV at h
  split at h
  · rename_i d hd
    cases h
    obtain ⟨v, h1, h2⟩ := hE.at' i d hd
    exact ⟨v, h1, P r H v S (Ext.refl _ _ _) h2⟩
  · cases h
theorem e_c {e : Expr} {d : D} {v : V} (h : PE X e (tC v)) (hr : ∀ r H, RD X.K r H d v) : E X EW e (xC d) := by
  refine PE.weak h ?_
  rintro σ H Q ⟨r, e, st, out, st', S, hE, h, P⟩
  cases h
  exact P r H v S (Ext.refl _ _ _) (hr r H)
theorem e_int {i : Int} {j pos} : E X EW (.Constant (.int i) j pos) (xC (.int i)) := e_c pe_int fun _ _ => by simp only [RD]
theorem e_bl {b : Bool} {j pos} : E X EW (.Constant (.bool b) j pos) (xC (.bl b)) := e_c pe_bl fun _ _ => by simp only [RD]
theorem e_non {j pos} : E X EW (.Constant .none j pos) (xC .non) := e_c pe_non fun _ _ => by simp only [RD]
theorem e_str {x : Str} {j pos} : E X EW (.Constant (.str x) j pos) (xC (.str x)) := e_c pe_str fun _ _ => by simp only [RD]
/-- a constant of the module -/
theorem e_glob {x : Str} {d : D} {v : V} {u : Value} {pos : Pos} (hg : Gl X x) (hm : X.mg x = some u) (rv : RelV v u) (hr : ∀ r H, RD X.K r H d v) (hd : (x == ("__debug__" : Str)) = false := by decide) : E X EW (.Name x pos) (xC d) := e_c (pe_glob hg hm rv hd) hr

/-- what is wanted of a value -/
def Ok (K : PySem.W.Frag) (r : Ad) (H : Hp) (Q : VK) (z : D) (st' : Store) : Prop := ∀ r' H' v, Sim K r' H' st' → Ext K r H r' H' → RD K r' H' z v → Q v H'
theorem Ok.here {K : PySem.W.Frag} {r : Ad} {H : Hp} {Q : VK} {z : D} {st : Store} {v : V} (P : Ok K r H Q z st) (S : Sim K r H st) (h : RD K r H z v) : Q v H := P r H v S (Ext.refl _ _ _) h
theorem ok0_some {α : Type} {o : Option (α × Store)} {out : Res α} {st' : Store} (h : ok0 o = some (out, st')) : ∃ z, o = some (z, st') ∧ out = .ok z := by
  cases o with
  | none => cases h
  | some p => cases h; exact ⟨p.1, rfl, rfl⟩
/-- an operator by values -/
def OpS (K : PySem.W.Frag) (rr : R2) (f : F2) : Prop := ∀ r H st d c x y z st' Q,
  Sim K r H st → RD K r H d x → RD K r H c y → f d c st = some (z, st') → Ok K r H Q z st' → rr x y H Q
theorem e_op {a b : Expr} {op : Operator} {pos : Pos} {rr : R2} {f : F2} {ma mb : M D} (ho : OpR X (binaryOp op) rr) (hf : OpS X.K rr f) (ha : E X EW a ma) (hb : E X EW b mb) : E X EW (.BinOp a op b pos) (x2 f ma mb) := by
  refine PE.weak (pe_op ho ha hb) ?_
  rintro σ H Q ⟨r, e, st, out, st', S, hE, h, P⟩
  refine bnd_step S hE h P fun r1 H1 x d st1 S1 x1 hE1 hd h1 P1 => bnd_step S1 hE1 h1 P1 fun r2 H2 y c st2 S2 x2 hE2 hc h2 P2 => ?_
  obtain ⟨z, h3, rfl⟩ := ok0_some h2
  exact hf r2 H2 st2 d c x y z st' Q S2 (hd.mono x2) hc h3 P2
theorem e_cmp {a b : Expr} {op : CmpOp} {pos : Pos} {rr : R2} {f : F2} {ma mb : M D} (ho : OpR X (compareOp op) rr) (hf : OpS X.K rr f) (ha : E X EW a ma) (hb : E X EW b mb) (hm : behindInMarks op b = false := by rfl) :
    E X EW (.Compare a [op] [b] pos) (x2 f ma mb) := by
  refine PE.weak (pe_cmpR ho ha hb hm) ?_
  rintro σ H Q ⟨r, e, st, out, st', S, hE, h, P⟩
  refine bnd_step S hE h P fun r1 H1 x d st1 S1 x1 hE1 hd h1 P1 => bnd_step S1 hE1 h1 P1 fun r2 H2 y c st2 S2 x2 hE2 hc h2 P2 => ?_
  obtain ⟨z, h3, rfl⟩ := ok0_some h2
  exact hf r2 H2 st2 d c x y z st' Q S2 (hd.mono x2) hc h3 P2
def UnS (K : PySem.W.Frag) (rr : V → Hp → VK → Prop) (f : F1) : Prop := ∀ r H st d x z st' Q,
  Sim K r H st → RD K r H d x → f d st = some (z, st') → Ok K r H Q z st' → rr x H Q
theorem e_un {a : Expr} {op : UnaryOp} {pos : Pos} {rr : V → Hp → VK → Prop} {f : F1} {ma : M D} (ho : UnR X (unaryOp op) rr) (hf : UnS X.K rr f) (ha : E X EW a ma) : E X EW (.UnaryOp op a pos) (x1 f ma) := by
  refine PE.weak (pe_un ho ha) ?_
  rintro σ H Q ⟨r, e, st, out, st', S, hE, h, P⟩
  refine bnd_step S hE h P fun r1 H1 x d st1 S1 x1 hE1 hd h1 P1 => ?_
  obtain ⟨z, h3, rfl⟩ := ok0_some h1
  exact hf r1 H1 st1 d x z st' Q S1 hd h3 P1
/-- a built-in function, a type, a method by values -/
def CallS (K : PySem.W.Frag) (rr : List V → Hp → VK → Prop) (F : Fn0) : Prop := ∀ r H st ds vs z st' Q,
  Sim K r H st → RDs K r H ds vs → F ds st = some (z, st') → Ok K r H Q z st' → rr vs H Q
theorem a_nil : As X EW [] aN := by
  refine PA.weak pa_nil ?_
  rintro σ H Q ⟨r, e, st, out, st', S, hE, h, P⟩
  cases h
  exact P r H [] S (Ext.refl _ _ _) RDs.nil
theorem a_cons {a : Expr} {es : List Expr} {ma : M D} {ms : M (List D)} (ha : E X EW a ma) (hs : As X EW es ms) (hst : starEach (a :: es) X.env = (false, eval a X.env) :: starEach es X.env := by rfl) : As X EW (a :: es) (aC ma ms) := by
  refine PA.weak (pa_cons ha hs hst) ?_
  rintro σ H Q ⟨r, e, st, out, st', S, hE, h, P⟩
  refine bnd_step S hE h P fun r1 H1 x d st1 S1 x1 hE1 hd h1 P1 => bnd_step S1 hE1 h1 P1 fun r2 H2 y c st2 S2 x2 hE2 hc h2 P2 => ?_
  cases h2
  exact P2 r2 H2 _ S2 (Ext.refl _ _ _) (RDs.cons (hd.mono x2) hc)
theorem e_tup {es : List Expr} {ms : M (List D)} {k} {pos : Pos} (h : As X EW es ms) : E X EW (.Tuple es k pos) (xTup ms) := by
  refine PE.weak (pe_tup h) ?_
  rintro σ H Q ⟨r, e, st, out, st', S, hE, h, P⟩
  refine bnd_step S hE h P fun r1 H1 vs ds st1 S1 x1 hE1 hd h1 P1 => ?_
  dsimp only at h1
  split at h1
  · rename_i hl
    cases h1
    refine ⟨by rw [← hd.length]; exact hl, fun p hp => ?_⟩
    obtain ⟨S2, x2⟩ := S1.side (o := .tup vs) hp
    exact P1 r1 _ _ S2 x2 (by simp only [RD]; exact ⟨p, vs, rfl, .of upd_same, hd.mono x2⟩)
  · cases h1
theorem f_lst {es : List Expr} {ms : M (List D)} {pos : Pos} (h : As X EW es ms) : EF X EW (.List es pos) (xLst ms) := by
  refine PE.weak (pe_lst h) ?_
  rintro σ H Q ⟨r, e, st, out, st', S, hE, h, P⟩
  refine bnd_stepO S hE h P fun r1 H1 vs ds st1 S1 x1 hE1 hd h1 => ?_
  dsimp only at h1
  split at h1
  · rename_i hl
    cases h1
    exact ⟨by rw [← hd.length]; exact hl, fun p hp => P.lay S S1 x1 hp ⟨vs, rfl, hd⟩⟩
  · cases h1
theorem val_weak {K : PySem.W.Frag} {m : M Ob} {σ : L2.St} {H : Hp} {Q : VK} (h : tE K EW (xVal m) σ H Q) : tF K EW m σ H Q := by
  obtain ⟨r, e, st, out, st', S, hE, h, P⟩ := h
  refine bnd_stepF S hE h P fun r1 H1 p ob st1 S1 x1 nx q hp h1 => ?_
  have np : p ∉ r1.r := (S1.xs p List.mem_cons_self).2
  obtain ⟨S2, t2⟩ := S1.bare
  cases ob with
  | lst ds =>
    cases h1
    obtain ⟨vs, e1, hd⟩ := q
    exact P r1 H1 _ S2 x1 (by simp only [RD]; exact ⟨p, vs, rfl, e1, ⟨np, nx⟩, hd.tr t2⟩)
  | dct ks ds =>
    cases h1
    obtain ⟨kvs, e1, hk, hd⟩ := q
    exact P r1 H1 _ S2 x1 (by simp only [RD]; exact ⟨p, kvs, rfl, e1, ⟨np, nx⟩, hk, hd.tr t2⟩)
  | flst ds => cases h1
theorem new_weak {K : PySem.W.Frag} {m : M Ob} {σ : L2.St} {H : Hp} {Q : VK} (h : tE K EW (xNew m) σ H Q) : tF K EW m σ H Q := by
  obtain ⟨r, e, st, out, st', S, hE, h, P⟩ := h
  refine bnd_stepF S hE h P fun r1 H1 p ob st1 S1 x1 nx q hp h1 => ?_
  obtain ⟨S2, t2⟩ := S1.join nx q
  cases h1
  obtain ⟨l, e1, hl⟩ := x1.pre
  refine P ⟨r1.r ++ [p], r1.x⟩ H1 _ S2 ⟨x1.x, ⟨l ++ [p], by simp [e1], fun a m => ?_⟩, x1.keep, x1.tup⟩ (by
    simp only [RD]
    refine ⟨p, ?_, rfl⟩
    have ll : r1.r.length = st1.length := S1.len
    show (r1.r ++ [p])[st1.length]? = some p
    rw [← ll]; simp)
  · rcases List.mem_append.mp m with m | m
    · exact hl a m
    · simp at m; rw [m]; exact hp
theorem e_val {e : Expr} {m : M Ob} (h : EF X EW e m) : E X EW e (xVal m) := PE.weak h fun _ _ _ => val_weak
theorem e_new {e : Expr} {m : M Ob} (h : EF X EW e m) : E X EW e (xNew m) := PE.weak h fun _ _ _ => new_weak
end
end FW

set_option maxHeartbeats 4000000
namespace FW
open PySem L2

/-! ### tests -/
/-- a value's truth -/
def truB (d : D) (st : Store) : Option Bool :=
  match d with
  | .non => some false
  | .bl b => some b
  | .int i => some (i != 0)
  | .str y => if y.length ≤ sizeLine then some ((y.length : Int) != 0) else none
  | .tup ds => some !ds.isEmpty
  | .lst ds => some !ds.isEmpty
  | .dct ks _ => some !ks.isEmpty
  | .ref n => match st[n]? with
    | some (.lst ds) => some !ds.isEmpty
    | some (.flst ds) => some !ds.isEmpty
    | some (.dct ks _) => some !ks.isEmpty
    | none => none
  | .cst _ => none
/-- a test: the truth of a value | of a comparison -/
def xTru (m : M D) : M Bool := xbnd m fun d _ st => match truB d st with
  | some b => some (.ok b, st)
  | none => none
def xTst (m : M D) : M Bool := xbnd m fun d _ st => match d with
  | .bl b => some (.ok b, st)
  | _ => none
def xNot (m : M Bool) : M Bool := xbnd m fun b _ st => some (.ok !b, st)
def xAnd (a b : M Bool) : M Bool := xbnd a fun x => if x = true then b else fun _ st => some (.ok false, st)
def xOr (a b : M Bool) : M Bool := xbnd a fun x => if x = true then fun _ st => some (.ok true, st) else b
def xIf {α : Type} (t : M Bool) (a b : M α) : M α := xbnd t fun x => if x = true then a else b
/-- not x as a value; x and y, x or y as values -/
def xNotV (m : M D) : M D := xbnd m fun d _ st => match truB d st with
  | some b => some (.ok (.bl !b), st)
  | none => none
def xAndV (a b : M D) : M D := xbnd a fun d e st => match truB d st with
  | some true => b e st
  | some false => some (.ok d, st)
  | none => none
def xOrV (a b : M D) : M D := xbnd a fun d e st => match truB d st with
  | some true => some (.ok d, st)
  | some false => b e st
  | none => none

theorem RDs.isEmpty {K : PySem.W.Frag} {r : Ad} {H : Hp} {ds : List D} {vs : List V} (h : RDs K r H ds vs) : ds.isEmpty = vs.isEmpty := by
  have := h.length
  cases ds <;> cases vs <;> simp_all
theorem truV_of {K : PySem.W.Frag} {r : Ad} {H : Hp} {st : Store} {d : D} {v : V} {b : Bool} (S : Sim K r H st) (h : RD K r H d v) (e : truB d st = some b) : TruV K v H b := by
  cases d with
  | non => simp only [RD] at h; subst h; simp only [truB] at e; cases e; rfl
  | bl c => simp only [RD] at h; subst h; simp only [truB] at e; cases e; rfl
  | int i => simp only [RD] at h; subst h; simp only [truB] at e; cases e; rfl
  | str y =>
    simp only [RD] at h; subst h
    simp only [truB] at e
    split at e
    · cases e; exact ⟨by assumption, rfl⟩
    · cases e
  | tup ds =>
    simp only [RD] at h
    obtain ⟨a, vs, rfl, s, q⟩ := h
    simp only [truB] at e; cases e
    exact .inr (.inl ⟨vs, s, by rw [q.isEmpty]⟩)
  | lst ds =>
    simp only [RD] at h
    obtain ⟨a, vs, rfl, s, n, q⟩ := h
    simp only [truB] at e; cases e
    exact .inl ⟨vs, .of s, by rw [q.isEmpty]⟩
  | dct ks ds =>
    simp only [RD] at h
    obtain ⟨a, kvs, rfl, s, n, k, q⟩ := h
    simp only [truB] at e; cases e
    exact .inr (.inr ⟨kvs, s, by subst k; cases kvs <;> rfl⟩)
  | ref n =>
    simp only [truB] at e
    cases q : st[n]? with
    | none => rw [q] at e; cases e
    | some o =>
      obtain ⟨a, rfl, h1, h2⟩ := S.at_ h q
      rw [q] at e
      cases o with
      | lst ds => obtain ⟨vs, e1, t⟩ := h2; cases e; exact .inl ⟨vs, .of e1, by rw [t.isEmpty]⟩
      | flst ds => obtain ⟨o, vs, e1, t⟩ := h2; cases e; exact .inl ⟨vs, .inl (.inr ⟨o, e1⟩), by rw [t.isEmpty]⟩
      | dct ks ds => obtain ⟨kvs, e1, k, t⟩ := h2; cases e; exact .inr (.inr ⟨kvs, e1, by subst k; cases kvs <;> rfl⟩)
  | cst c => cases e

section
variable {X : Cx} {EW : EWt}
theorem T.pt {e : Expr} {m : M Bool} (h : TW X EW e m) : T X EW e m := PW.pt h
theorem t_tru {a : Expr} {m : M D} (h : E X EW a m) (he : ∀ whole, isTrue a X.env whole = (do let v ← whole; standAt a.pos; holding [v] (truthy v)) := by intro _; rfl) : T X EW a (xTru m) := by
  refine PT.weak (pt_truth h he) ?_
  rintro σ H Q ⟨r, e, st, out, st', S, hE, h, P⟩
  refine bnd_step S hE h P fun r1 H1 x d st1 S1 x1 hE1 hd h1 P1 => ?_
  dsimp only at h1
  split at h1
  · rename_i b hb
    cases h1
    exact ⟨b, truV_of S1 hd hb, P1 r1 H1 b S1 (Ext.refl _ _ _) rfl⟩
  · cases h1
theorem t_cmp {a b : Expr} {op : CmpOp} {pos : Pos} {rr : R2} {f : F2} {ma mb : M D} (ho : OpR X (compareOp op) rr) (hf : OpS X.K rr f) (ha : E X EW a ma) (hb : E X EW b mb) (hm : behindInMarks op b = false := by rfl) :
    T X EW (.Compare a [op] [b] pos) (xTst (x2 f ma mb)) := by
  refine PT.weak (pt_cmpR ho ha hb hm) ?_
  rintro σ H Q ⟨r, e, st, out, st', S, hE, h, P⟩
  have h' : bnd (ma e st) (fun d st1 => bnd (mb e st1) fun c st2 => bnd (ok0 (f d c st2)) fun z st3 => match z with | .bl b => some (.ok b, st3) | _ => none) = some (out, st') := by
    have h : bnd (bnd (ma e st) fun d st1 => bnd (mb e st1) fun c st2 => ok0 (f d c st2)) _ = _ := h
    cases q : ma e st with
    | none => rw [q] at h; cases h
    | some p =>
      obtain ⟨o, s1⟩ := p
      rw [q] at h
      cases o with
      | exc x => exact h
      | ok d =>
        replace h : bnd (bnd (mb e s1) fun c st2 => ok0 (f d c st2)) _ = _ := h
        show bnd (mb e s1) _ = _
        cases q2 : mb e s1 with
        | none => rw [q2] at h; cases h
        | some p =>
          obtain ⟨o, s2⟩ := p
          rw [q2] at h
          cases o with
          | exc x => exact h
          | ok c => exact h
  refine bnd_step S hE h' P fun r1 H1 x d st1 S1 x1 hE1 hd h1 P1 => bnd_step S1 hE1 h1 P1 fun r2 H2 y c st2 S2 x2 hE2 hc h2 P2 => ?_
  cases q : f d c st2 with
  | none => rw [q] at h2; cases h2
  | some p =>
    obtain ⟨z, st3⟩ := p
    rw [q] at h2
    refine hf r2 H2 st2 d c x y z st3 _ S2 (hd.mono x2) hc q fun r3 H3 v S3 x3 hz => ?_
    cases z with
    | bl b =>
      simp only [RD] at hz
      subst hz
      cases h2
      exact ⟨b, rfl, P2 r3 H3 b S3 x3 rfl⟩
    | _ => cases h2
theorem t_not {a : Expr} {pos : Pos} {m : M Bool} (h : T X EW a m) : T X EW (.UnaryOp .Not a pos) (xNot m) := by
  refine PT.weak (pt_not h) ?_
  rintro σ H Q ⟨r, e, st, out, st', S, hE, h, P⟩
  refine bnd_step S hE h P fun r1 H1 x d st1 S1 x1 hE1 hd h1 P1 => ?_
  cases hd
  cases h1
  exact P1 r1 H1 _ S1 (Ext.refl _ _ _) rfl
theorem tw_and1 {a : Expr} {pos : Pos} {m : M Bool} (h : T X EW a m) : TW X EW (.BoolOp .And [a] pos) m := pw_and1 h
theorem tw_or1 {a : Expr} {pos : Pos} {m : M Bool} (h : T X EW a m) : TW X EW (.BoolOp .Or [a] pos) m := pw_or1 h
theorem tw_and {a b : Expr} {rest : List Expr} {pos : Pos} {m n : M Bool} (h : T X EW a m) (h2 : TW X EW (.BoolOp .And (b :: rest) pos) n) : TW X EW (.BoolOp .And (a :: b :: rest) pos) (xAnd m n) := by
  refine PW.weak (pw_and h h2) ?_
  rintro σ H Q ⟨r, e, st, out, st', S, hE, h, P⟩
  refine bnd_step S hE h P fun r1 H1 x d st1 S1 x1 hE1 hd h1 P1 => ?_
  cases hd
  cases x with
  | true => exact ⟨r1, e, st1, out, st', S1, hE1, h1, P1⟩
  | false => cases h1; exact P1 r1 H1 _ S1 (Ext.refl _ _ _) rfl
theorem tw_or {a b : Expr} {rest : List Expr} {pos : Pos} {m n : M Bool} (h : T X EW a m) (h2 : TW X EW (.BoolOp .Or (b :: rest) pos) n) : TW X EW (.BoolOp .Or (a :: b :: rest) pos) (xOr m n) := by
  refine PW.weak (pw_or h h2) ?_
  rintro σ H Q ⟨r, e, st, out, st', S, hE, h, P⟩
  refine bnd_step S hE h P fun r1 H1 x d st1 S1 x1 hE1 hd h1 P1 => ?_
  cases hd
  cases x with
  | true => cases h1; exact P1 r1 H1 _ S1 (Ext.refl _ _ _) rfl
  | false => exact ⟨r1, e, st1, out, st', S1, hE1, h1, P1⟩
theorem e_if {c a b : Expr} {pos : Pos} {t : M Bool} {ma mb : M D} (hc : T X EW c t) (ha : E X EW a ma) (hb : E X EW b mb) : E X EW (.IfExp c a b pos) (xIf t ma mb) := by
  refine PE.weak (pe_ifExp hc ha hb) ?_
  rintro σ H Q ⟨r, e, st, out, st', S, hE, h, P⟩
  refine bnd_step S hE h P fun r1 H1 x d st1 S1 x1 hE1 hd h1 P1 => ?_
  cases hd
  cases x with
  | true => exact ⟨r1, e, st1, out, st', S1, hE1, h1, P1⟩
  | false => exact ⟨r1, e, st1, out, st', S1, hE1, h1, P1⟩
/-- a conditional expression, one way at a time: lists made here -/
theorem f_if {c a b : Expr} {pos : Pos} {t : M Bool} {ma mb : M Ob} (hc : T X EW c t) (ha : EF X EW a ma) (hb : EF X EW b mb) : EF X EW (.IfExp c a b pos) (xIf t ma mb) := by
  refine PE.weak (pe_ifExp hc ha hb) ?_
  rintro σ H Q ⟨r, e, st, out, st', S, hE, h, P⟩
  refine bnd_stepO S hE h P fun r1 H1 x d st1 S1 x1 hE1 hd h1 => ?_
  have P1 := P.later S S1 x1
  cases hd
  cases x with
  | true => exact ⟨r1, e, st1, out, st', S1, hE1, h1, P1⟩
  | false => exact ⟨r1, e, st1, out, st', S1, hE1, h1, P1⟩
theorem e_not {a : Expr} {pos : Pos} {m : M D} (h : E X EW a m) : E X EW (.UnaryOp .Not a pos) (xNotV m) := by
  refine PE.weak (pe_notT h) ?_
  rintro σ H Q ⟨r, e, st, out, st', S, hE, h, P⟩
  refine bnd_step S hE h P fun r1 H1 x d st1 S1 x1 hE1 hd h1 P1 => ?_
  dsimp only at h1
  split at h1
  · rename_i b hb
    cases h1
    exact ⟨b, truV_of S1 hd hb, P1 r1 H1 (.bl !b) S1 (Ext.refl _ _ _) (by simp only [RD])⟩
  · cases h1
theorem e_one {op} {a : Expr} {pos : Pos} {m : M D} (h : E X EW a m) : E X EW (.BoolOp op [a] pos) m := pe_one h
theorem e_and {a b : Expr} {rest : List Expr} {pos : Pos} {m n : M D} (h : E X EW a m) (h2 : E X EW (.BoolOp .And (b :: rest) pos) n) : E X EW (.BoolOp .And (a :: b :: rest) pos) (xAndV m n) := by
  refine PE.weak (pe_andT h h2) ?_
  rintro σ H Q ⟨r, e, st, out, st', S, hE, h, P⟩
  refine bnd_step S hE h P fun r1 H1 x d st1 S1 x1 hE1 hd h1 P1 => ?_
  dsimp only at h1
  split at h1
  · rename_i hb
    exact ⟨true, truV_of S1 hd hb, by rw [if_pos rfl]; exact ⟨r1, e, st1, out, st', S1, hE1, h1, P1⟩⟩
  · rename_i hb
    cases h1
    exact ⟨false, truV_of S1 hd hb, by rw [if_neg Bool.false_ne_true]; exact P1 r1 H1 _ S1 (Ext.refl _ _ _) hd⟩
  · cases h1
theorem e_or {a b : Expr} {rest : List Expr} {pos : Pos} {m n : M D} (h : E X EW a m) (h2 : E X EW (.BoolOp .Or (b :: rest) pos) n) : E X EW (.BoolOp .Or (a :: b :: rest) pos) (xOrV m n) := by
  refine PE.weak (pe_orT h h2) ?_
  rintro σ H Q ⟨r, e, st, out, st', S, hE, h, P⟩
  refine bnd_step S hE h P fun r1 H1 x d st1 S1 x1 hE1 hd h1 P1 => ?_
  dsimp only at h1
  split at h1
  · rename_i hb
    cases h1
    exact ⟨true, truV_of S1 hd hb, by rw [if_pos rfl]; exact P1 r1 H1 _ S1 (Ext.refl _ _ _) hd⟩
  · rename_i hb
    exact ⟨false, truV_of S1 hd hb, by rw [if_neg Bool.false_ne_true]; exact ⟨r1, e, st1, out, st', S1, hE1, h1, P1⟩⟩
  · cases h1
end
end FW

set_option maxHeartbeats 4000000
namespace FW
open PySem L2

/-! ### statements -/
def PostS (K : PySem.W.Frag) (EW : EWt) (r : Ad) (H : Hp) (st' : Store) (D : Ends) : SR → Prop
  | .nx e' => ∀ r' H' σ', Sim K r' H' st' → Ext K r H r' H' → RE K r' H' e' σ' → D.nx σ' H'
  | .bk e' => ∀ r' H' σ', Sim K r' H' st' → Ext K r H r' H' → RE K r' H' e' σ' → D.bk σ' H'
  | .ct e' => ∀ r' H' σ', Sim K r' H' st' → Ext K r H r' H' → RE K r' H' e' σ' → D.ct σ' H'
  | .rt d => ∀ r' H' v, Sim K r' H' st' → Ext K r H r' H' → RD K r' H' d v → D.rt v H'
  | .exc x e' => ∀ r' H' σ', Sim K r' H' st' → Ext K r H r' H' → RE K r' H' e' σ' → EW x σ' r' H'
def tS (K : PySem.W.Frag) (EW : EWt) (m : MS) : TS := fun D σ H => ∃ r e st out st', Sim K r H st ∧ RE K r H e σ ∧ m e st = some (out, st') ∧ PostS K EW r H st' D out
def S_ (X : Cx) (EW : EWt) (s : Stmt) (m : MS) : Prop := PS X s (tS X.K EW m)
def Ss (X : Cx) (EW : EWt) (ss : List Stmt) (m : MS) : Prop := PSs X ss (tS X.K EW m)

def sNil : MS := fun e st => some (.nx e, st)
def sBreak : MS := fun e st => some (.bk e, st)
def sCont : MS := fun e st => some (.ct e, st)
def sSeq (m n : MS) : MS := fun e st => match m e st with
  | some (.nx e1, st1) => n e1 st1
  | o => o
def bndS {α : Type} (o : Option (Res α × Store)) (e : Env) (k : α → Store → Option (SR × Store)) : Option (SR × Store) :=
  match o with
  | some (.ok a, st) => k a st
  | some (.exc x, st) => some (.exc x e, st)
  | none => none
def sEx (m : M D) : MS := fun e st => bndS (m e st) e fun _ st1 => some (.nx e, st1)
def sRet (m : M D) : MS := fun e st => bndS (m e st) e fun d st1 => some (.rt d, st1)
def sRetN : MS := fun _ st => some (.rt .non, st)
def sIf (t : M Bool) (a b : MS) : MS := fun e st => bndS (t e st) e fun c st1 => if c = true then a e st1 else b e st1
/-- targets -/
abbrev MG := D → Env → Store → Option (Env × Store)
abbrev MGs := List D → Env → Store → Option (Env × Store)
def sAsg (m : M D) (g : MG) : MS := fun e st => bndS (m e st) e fun d st1 => (g d e st1).map fun p => (.nx p.1, p.2)
def gN (i : Nat) : MG := fun d e st => some (e.set i (some d), st)
def gsN : MGs := fun ds e st => match ds with
  | [] => some (e, st)
  | _ => none
def gsC (g : MG) (gs : MGs) : MGs := fun ds e st => match ds with
  | d :: r => (g d e st).bind fun p => gs r p.1 p.2
  | [] => none
def gT (n : Nat) (gs : MGs) : MG := fun d e st => match d with
  | .tup ds => if ds.length = n then gs ds e st else none
  | _ => none

section
variable {K : PySem.W.Frag} {EW : EWt} {α β : Type} {R : Ad → Hp → α → β → Prop} {r r' r1 : Ad} {H H' H1 : Hp} {st st' st1 : Store} {σ : L2.St} {e : Env}
theorem PostS.later {D : Ends} {out : SR} (S : Sim K r H st) (S1 : Sim K r1 H1 st1) (x : Ext K r H r1 H1) (P : PostS K EW r H st' D out) : PostS K EW r1 H1 st' D out := by
  cases out with
  | nx a => exact fun r' H' b S' y => P r' H' b S' (x.trans' S S1 y)
  | bk a => exact fun r' H' b S' y => P r' H' b S' (x.trans' S S1 y)
  | ct a => exact fun r' H' b S' y => P r' H' b S' (x.trans' S S1 y)
  | rt a => exact fun r' H' b S' y => P r' H' b S' (x.trans' S S1 y)
  | exc a b => exact fun r' H' b S' y => P r' H' b S' (x.trans' S S1 y)
theorem bndS_step {m : M α} {k : α → Store → Option (SR × Store)} {out : SR} {D : Ends} {Q1 : β → Hp → Prop} (S : Sim K r H st) (hE : RE K r H e σ) (h : bndS (m e st) e k = some (out, st')) (P : PostS K EW r H st' D out)
    (next : ∀ r1 H1 b a st1, Sim K r1 H1 st1 → Ext K r H r1 H1 → RE K r1 H1 e σ → R r1 H1 a b → k a st1 = some (out, st') → PostS K EW r1 H1 st' D out → Q1 b H1) : tX K R EW m σ H Q1 := by
  cases q : m e st with
  | none => rw [q] at h; cases h
  | some p =>
    obtain ⟨o, st1⟩ := p
    rw [q] at h
    cases o with
    | ok a => exact ⟨r, e, st, .ok a, st1, S, hE, q, fun r1 H1 b S1 x hR => next r1 H1 b a st1 S1 x (hE.mono x) hR h (P.later S S1 x)⟩
    | exc x =>
      simp only [bndS, Option.some.injEq, Prod.mk.injEq] at h
      obtain ⟨rfl, rfl⟩ := h
      exact ⟨r, e, st, .exc x, st1, S, hE, q, fun r' H' S' y => P r' H' σ S' y (hE.mono y)⟩
end

/-- the slots off a list are as they were -/
def Off (sl : List Nat) (σ σ' : L2.St) : Prop := σ'.length = σ.length ∧ ∀ i : Nat, i ∉ sl → σ'[i]? = σ[i]?
theorem Off.refl (sl : List Nat) (σ : L2.St) : Off sl σ σ := ⟨rfl, fun _ _ => rfl⟩
theorem Off.trans {sl : List Nat} {a b c : L2.St} (x : Off sl a b) (y : Off sl b c) : Off sl a c := ⟨y.1.trans x.1, fun i h => (y.2 i h).trans (x.2 i h)⟩
theorem Off.sub {sl sl' : List Nat} {a b : L2.St} (x : Off sl a b) (h : ∀ i ∈ sl, i ∈ sl') : Off sl' a b := ⟨x.1, fun i n => x.2 i fun m => n (h i m)⟩
def PostG (K : PySem.W.Frag) (sl : List Nat) (σ : L2.St) (r : Ad) (H : Hp) (Q : L2.St → Hp → Prop) (e' : Env) (st' : Store) : Prop :=
  ∀ r' H' σ', Sim K r' H' st' → Ext K r H r' H' → RE K r' H' e' σ' → Off sl σ σ' → Q σ' H'
def tG (K : PySem.W.Frag) (sl : List Nat) (g : MG) : TG := fun v σ H Q => ∃ r e st d e' st', Sim K r H st ∧ RE K r H e σ ∧ RD K r H d v ∧ g d e st = some (e', st') ∧ PostG K sl σ r H Q e' st'
def tGs (K : PySem.W.Frag) (sl : List Nat) (g : MGs) : TGs := fun vs σ H Q => ∃ r e st ds e' st', Sim K r H st ∧ RE K r H e σ ∧ RDs K r H ds vs ∧ g ds e st = some (e', st') ∧ PostG K sl σ r H Q e' st'
def G (X : Cx) (sl : List Nat) (t : Expr) (g : MG) : Prop := PG X t (tG X.K sl g)
def Gs (X : Cx) (sl : List Nat) (ts : List Expr) (g : MGs) : Prop := PGs X ts (tGs X.K sl g)
theorem PG.weak {X : Cx} {e : Expr} {t t' : TG} (h : PG X e t) (w : ∀ v σ H Q, t' v σ H Q → t v σ H Q) : PG X e t' := ⟨fun pins s σ H v u Q I rv q => h.run pins s σ H v u Q I rv (w v σ H Q q)⟩
theorem PGs.weak {X : Cx} {e : List Expr} {t t' : TGs} (h : PGs X e t) (w : ∀ v σ H Q, t' v σ H Q → t v σ H Q) : PGs X e t' := ⟨fun pins s σ H v u Q I rv q => h.run pins s σ H v u Q I rv (w v σ H Q q)⟩

section
variable {X : Cx} {EW : EWt}
theorem s_nil : Ss X EW [] sNil := by
  refine PSs.weak pss_nil ?_
  rintro D σ H ⟨r, e, st, out, st', S, hE, h, P⟩
  cases h
  exact P r H σ S (Ext.refl _ _ _) hE
theorem s_cons {s : Stmt} {ss : List Stmt} {m n : MS} (h1 : S_ X EW s m) (h2 : Ss X EW ss n) : Ss X EW (s :: ss) (sSeq m n) := by
  refine PSs.weak (pss_cons h1 h2) ?_
  rintro D σ H ⟨r, e, st, out, st', S, hE, h, P⟩
  unfold sSeq at h
  cases q : m e st with
  | none => rw [q] at h; cases h
  | some p =>
    obtain ⟨o, st1⟩ := p
    rw [q] at h
    refine ⟨r, e, st, o, st1, S, hE, q, ?_⟩
    cases o with
    | nx e1 => exact fun r1 H1 σ1 S1 x1 hE1 => ⟨r1, e1, st1, out, st', S1, hE1, h, P.later S S1 x1⟩
    | bk e1 => cases h; exact P
    | ct e1 => cases h; exact P
    | rt d => cases h; exact P
    | exc x e1 => cases h; exact P
theorem s_one {s : Stmt} {m : MS} (h1 : S_ X EW s m) : Ss X EW [s] m := pss_one h1
theorem s_pass {pos} : S_ X EW (.Pass pos) sNil := by
  refine PS.weak ps_pass ?_
  rintro D σ H ⟨r, e, st, out, st', S, hE, h, P⟩
  cases h
  exact P r H σ S (Ext.refl _ _ _) hE
theorem s_break {pos} : S_ X EW (.Break pos) sBreak := by
  refine PS.weak ps_break ?_
  rintro D σ H ⟨r, e, st, out, st', S, hE, h, P⟩
  cases h
  exact P r H σ S (Ext.refl _ _ _) hE
theorem s_cont {pos} : S_ X EW (.Continue pos) sCont := by
  refine PS.weak ps_continue ?_
  rintro D σ H ⟨r, e, st, out, st', S, hE, h, P⟩
  cases h
  exact P r H σ S (Ext.refl _ _ _) hE
theorem s_ex {a : Expr} {pos : Pos} {m : M D} (h : E X EW a m) (hs : swapsWith a none pos.line X.env = pure false := by rfl) : S_ X EW (.Expr a pos) (sEx m) := by
  refine PS.weak (ps_expr h hs) ?_
  rintro D σ H ⟨r, e, st, out, st', S, hE, h, P⟩
  refine bndS_step S hE h P fun r1 H1 x d st1 S1 x1 hE1 hd h1 P1 => ?_
  cases h1
  exact P1 r1 H1 σ S1 (Ext.refl _ _ _) hE1
theorem s_ret {a : Expr} {pos : Pos} {m : M D} (h : E X EW a m) : S_ X EW (.Return (some a) pos) (sRet m) := by
  refine PS.weak (ps_ret h) ?_
  rintro D σ H ⟨r, e, st, out, st', S, hE, h, P⟩
  refine bndS_step S hE h P fun r1 H1 x d st1 S1 x1 hE1 hd h1 P1 => ?_
  cases h1
  exact P1 r1 H1 x S1 (Ext.refl _ _ _) hd
theorem s_retN {pos : Pos} : S_ X EW (.Return none pos) sRetN := by
  refine PS.weak ps_retN ?_
  rintro D σ H ⟨r, e, st, out, st', S, hE, h, P⟩
  cases h
  exact P r H .non S (Ext.refl _ _ _) (by simp only [RD])
theorem s_if {c : Expr} {a b : List Stmt} {pos : Pos} {t : M Bool} {m n : MS} (hc : T X EW c t) (ha : Ss X EW a m) (hb : Ss X EW b n) : S_ X EW (.If c a b pos) (sIf t m n) := by
  refine PS.weak (ps_if hc ha hb) ?_
  rintro D σ H ⟨r, e, st, out, st', S, hE, h, P⟩
  refine bndS_step S hE h P fun r1 H1 x d st1 S1 x1 hE1 hd h1 P1 => ?_
  cases hd
  cases x with
  | true => exact ⟨r1, e, st1, out, st', S1, hE1, h1, P1⟩
  | false => exact ⟨r1, e, st1, out, st', S1, hE1, h1, P1⟩
theorem g_name (i : Nat) {x : Str} {pos : Pos} (hN : X.N.Nodup) (hi : X.N[i]? = some x := by rfl) (hx : Loc X.env.scope x := by first | exact Or.inl rfl | exact Or.inr rfl)
    (hf : X.fn x = true ∨ X.env.scope.names.lookup x = some .local := by first | exact .inl rfl | exact .inr rfl) : G X [i] (.Name x pos) (gN i) := by
  refine PG.weak (pg_name hN hi hx hf) ?_
  rintro v σ H Q ⟨r, e, st, d, e', st', S, hE, hd, h, P⟩
  cases h
  refine P r H _ S (Ext.refl _ _ _) (hE.set hd) ⟨by simp, fun j hj => ?_⟩
  simp only [List.mem_singleton] at hj
  rw [List.getElem?_set_ne (fun z => hj z.symm)]
theorem gs_nil {sl : List Nat} : Gs X sl [] gsN := by
  refine PGs.weak pgs_nil ?_
  rintro v σ H Q ⟨r, e, st, d, e', st', S, hE, hd, h, P⟩
  unfold gsN at h
  split at h
  · cases h
    simp only [RDs] at hd
    exact ⟨hd, P r H σ S (Ext.refl _ _ _) hE (Off.refl _ _)⟩
  · cases h
theorem gs_cons {sl sl1 sl2 : List Nat} {t : Expr} {ts : List Expr} {g : MG} {gs : MGs} (h1 : G X sl1 t g) (h2 : Gs X sl2 ts gs) (hs1 : ∀ i ∈ sl1, i ∈ sl := by decide) (hs2 : ∀ i ∈ sl2, i ∈ sl := by decide)
    (hs : (assignEach (t :: ts) X.env).map (·.2) = assign t X.env :: (assignEach ts X.env).map (·.2) := by rfl) : Gs X sl (t :: ts) (gsC g gs) := by
  refine PGs.weak (pgs_cons h1 h2 hs) ?_
  rintro v σ H Q ⟨r, e, st, ds, e', st', S, hE, hd, h, P⟩
  cases ds with
  | nil => cases h
  | cons d ds =>
    simp only [RDs] at hd
    obtain ⟨w, vs, rfl, hd1, hd2⟩ := hd
    refine ⟨w, vs, rfl, ?_⟩
    replace h : (g d e st).bind (fun p => gs ds p.1 p.2) = some (e', st') := h
    cases q : g d e st with
    | none => rw [q] at h; cases h
    | some p =>
      obtain ⟨e1, st1⟩ := p
      rw [q] at h
      refine ⟨r, e, st, d, _, _, S, hE, hd1, q, fun r1 H1 σ1 S1 x1 hE1 o1 => ?_⟩
      exact ⟨r1, e1, st1, ds, e', st', S1, hE1, hd2.mono x1, h, fun r' H' σ' S' y hE' o => P r' H' σ' S' (x1.trans' S S1 y) hE' ((o1.sub hs1).trans (o.sub hs2))⟩
theorem g_tup {sl : List Nat} {es : List Expr} {k : Nat} {n : Nat} {pos : Pos} {gs : MGs} (hc : X.calm = true) (h : Gs X sl es gs) (hn : (assignEach es X.env).length = n := by rfl) (hst : (assignEach es X.env).findIdx? (·.1) = none := by rfl) : G X sl (.Tuple es k pos) (gT n gs) := by
  refine PG.weak (pg_tup hc h hn hst) ?_
  rintro v σ H Q ⟨r, e, st, d, e', st', S, hE, hd, h, P⟩
  unfold gT at h
  split at h
  · rename_i ds
    split at h
    · rename_i hl
      simp only [RD] at hd
      obtain ⟨a, vs, rfl, s, q⟩ := hd
      exact ⟨a, vs, rfl, s, by rw [← q.length]; exact hl, r, e, st, ds, e', st', S, hE, q, h, P⟩
    · cases h
  · cases h
theorem s_asg {sl : List Nat} {tg a : Expr} {pos : Pos} {m : M D} {g : MG} (h : E X EW a m) (hg : G X sl tg g) (hs : swapsWithSole [tg] a pos.line X.env = pure false := by rfl) (hw : swappedStores [tg] a X.env = pure none := by rfl)
    (h1 : (assignEach [tg] X.env).map (·.2) = [assign tg X.env] := by rfl) : S_ X EW (.Assign [tg] a pos) (sAsg m g) := by
  refine PS.weak (ps_asg h hg hs hw h1) ?_
  rintro D σ H ⟨r, e, st, out, st', S, hE, h, P⟩
  refine bndS_step S hE h P fun r1 H1 x d st1 S1 x1 hE1 hd h1 P1 => ?_
  cases q : g d e st1 with
  | none => rw [q] at h1; cases h1
  | some p =>
    obtain ⟨e1, st2⟩ := p
    rw [q] at h1
    cases h1
    exact ⟨r1, e, st1, d, _, _, S1, hE1, hd, q, fun r' H' σ' S' y hE' o => P1 r' H' σ' S' y hE'⟩

/-! ### while -/
/-- at most n turns -/
def whN (c : M Bool) (b : MS) : Nat → MS
  | 0, _, _ => none
  | n + 1, e, st => bndS (c e st) e fun k st1 => if k = true then
      match b e st1 with
      | some (.nx e2, st2) => whN c b n e2 st2
      | some (.ct e2, st2) => whN c b n e2 st2
      | some (.bk e2, st2) => some (.nx e2, st2)
      | o => o
    else some (.nx e, st1)
open Classical in
noncomputable def sWhile (c : M Bool) (b : MS) : MS := fun e st => if h : ∃ n, (whN c b n e st).isSome = true then whN c b (choose h) e st else none
theorem s_while {c : Expr} {body : List Stmt} {pos : Pos} {t : M Bool} {m : MS} (hp : PassesOwn (model X.prog X.w) X.A X.env X.xe) (hc : T X EW c t) (hb : Ss X EW body m) : S_ X EW (.While c body [] pos) (sWhile t m) := by
  refine PS.weak (ps_while hp hc hb) ?_
  rintro D σ H ⟨r, e, st, out, st', S, hE, h, P⟩
  obtain ⟨n, hn⟩ : ∃ n, whN t m n e st = some (out, st') := by
    unfold sWhile at h
    split at h
    · exact ⟨_, h⟩
    · cases h
  refine ⟨fun n σ H => ∃ r e st, Sim X.K r H st ∧ RE X.K r H e σ ∧ whN t m n e st = some (out, st') ∧ PostS X.K EW r H st' D out, ⟨n, r, e, st, S, hE, hn, P⟩, ?_⟩
  rintro n σ H ⟨r, e, st, S, hE, h, P⟩
  cases n with
  | zero => cases h
  | succ n =>
    unfold whN at h
    refine bndS_step S hE h P fun r1 H1 x k st1 S1 x1 hE1 hd h1 P1 => ?_
    cases hd
    cases x with
    | false =>
      rw [if_neg Bool.false_ne_true] at h1 ⊢
      cases h1
      exact P1 r1 H1 σ S1 (Ext.refl _ _ _) hE1
    | true =>
      rw [if_pos rfl] at h1 ⊢
      refine ⟨fun σ H => ∃ r e st, Sim X.K r H st ∧ RE X.K r H e σ ∧ whN t m n e st = some (out, st') ∧ PostS X.K EW r H st' D out, fun σ' H' q => ⟨n, Nat.lt_succ_self _, q⟩, ?_⟩
      cases q : m e st1 with
      | none => rw [q] at h1; cases h1
      | some p =>
        obtain ⟨o, st2⟩ := p
        rw [q] at h1
        refine ⟨r1, e, st1, o, st2, S1, hE1, q, ?_⟩
        cases o with
        | nx e2 => exact fun r2 H2 σ2 S2 x2 hE2 => ⟨r2, e2, st2, S2, hE2, h1, P1.later S1 S2 x2⟩
        | ct e2 => exact fun r2 H2 σ2 S2 x2 hE2 => ⟨r2, e2, st2, S2, hE2, h1, P1.later S1 S2 x2⟩
        | bk e2 => cases h1; exact P1
        | rt d => cases h1; exact P1
        | exc x e2 => cases h1; exact P1

/-! ### what is walked -/
/-- the items; the store's list that they are, if it is one -/
structure Itm where
  ds : List D
  src : List (Nat × List D)
def Itm.hold (i : Itm) (st : Store) : Prop := ∀ p ∈ i.src, st[p.1]? = some (.lst p.2) ∨ st[p.1]? = some (.flst p.2)
def ItOk (K : PySem.W.Frag) (r : Ad) (H : Hp) (it : Itm) (J : L2.It) : Prop := ∀ r1 H1 st1, Sim K r1 H1 st1 → Tr K r H r1 H1 → it.hold st1 →
  (∀ i : Nat, it.ds.length ≤ i → J.stop i H1) ∧ ∀ (i : Nat) (d : D), it.ds[i]? = some d → J.go i H1 ∧ ∀ x H2, J.yld i H1 x H2 → Sim K r1 H2 st1 ∧ Ext K r1 H1 r1 H2 ∧ RD K r1 H2 d x
theorem Tr.trans {K : PySem.W.Frag} {r r1 r2 : Ad} {H H1 H2 : Hp} (x : Tr K r H r1 H1) (y : Tr K r1 H1 r2 H2) : Tr K r H r2 H2 :=
  ⟨fun a o e n m => let ⟨p, q⟩ := x.obj a o e n m; y.obj a o p n q, fun n a e => y.at_ n a (x.at_ n a e), fun a xs e => y.tup a xs (x.tup a xs e)⟩
theorem ItOk.tr {K : PySem.W.Frag} {r r1 : Ad} {H H1 : Hp} {it : Itm} {J : L2.It} (h : ItOk K r H it J) (x : Tr K r H r1 H1) : ItOk K r1 H1 it J := fun r2 H2 st2 S y hh => h r2 H2 st2 S (x.trans y) hh
def PostI (K : PySem.W.Frag) (EW : EWt) (σ : L2.St) (r : Ad) (H : Hp) (st' : Store) (Q : L2.It → Hp → Prop) : Res Itm → Prop
  | .ok it => ∀ r' H' J, Sim K r' H' st' → Ext K r H r' H' → ItOk K r' H' it J → Q J H'
  | .exc x => ∀ r' H', Sim K r' H' st' → Ext K r H r' H' → EW x σ r' H'
def tI (K : PySem.W.Frag) (EW : EWt) (m : M Itm) : TI := fun σ H Q => ∃ r e st out st', Sim K r H st ∧ RE K r H e σ ∧ m e st = some (out, st') ∧ PostI K EW σ r H st' Q out
def I_ (X : Cx) (EW : EWt) (tg iter : Expr) (m : M Itm) : Prop := PI X tg iter (tI X.K EW m)
theorem PI.weak {X : Cx} {tg e : Expr} {t t' : TI} (h : PI X tg e t) (w : ∀ σ H Q, t' σ H Q → t σ H Q) : PI X tg e t' := ⟨fun pins s σ H Q I q => h.run pins s σ H Q I (w σ H Q q)⟩
theorem PI.or {X : Cx} {tg e : Expr} {t t' : TI} (h : PI X tg e t) (h' : PI X tg e t') : PI X tg e (fun σ H Q => t σ H Q ∨ t' σ H Q) := ⟨fun pins s σ H Q I q => q.elim (h.run pins s σ H Q I) (h'.run pins s σ H Q I)⟩
theorem bnd_stepI {K : PySem.W.Frag} {EW : EWt} {α β : Type} {R : Ad → Hp → α → β → Prop} {r : Ad} {H : Hp} {st st' : Store} {σ : L2.St} {e : Env} {m : M α} {k : α → Store → Option (Res Itm × Store)} {out : Res Itm} {Q : L2.It → Hp → Prop} {Q1 : β → Hp → Prop} (S : Sim K r H st) (hE : RE K r H e σ) (h : bnd (m e st) k = some (out, st')) (P : PostI K EW σ r H st' Q out)
    (next : ∀ r1 H1 b a st1, Sim K r1 H1 st1 → Ext K r H r1 H1 → RE K r1 H1 e σ → R r1 H1 a b → k a st1 = some (out, st') → Q1 b H1) : tX K R EW m σ H Q1 := by
  cases q : m e st with
  | none => rw [q] at h; cases h
  | some p =>
    obtain ⟨o, st1⟩ := p
    rw [q] at h
    cases o with
    | ok a => exact ⟨r, e, st, .ok a, st1, S, hE, q, fun r1 H1 b S1 x hR => next r1 H1 b a st1 S1 x (hE.mono x) hR h⟩
    | exc x =>
      simp only [bnd, Option.some.injEq, Prod.mk.injEq] at h
      obtain ⟨rfl, rfl⟩ := h
      exact ⟨r, e, st, .exc x, st1, S, hE, q, P⟩

/-- over a list or a tuple -/
def itV (d : D) (st : Store) : Option Itm := match d with
  | .tup ds => some ⟨ds, []⟩
  | .lst ds => some ⟨ds, []⟩
  | .ref n => match st[n]? with
    | some (.lst ds) => some ⟨ds, [(n, ds)]⟩
    | some (.flst ds) => some ⟨ds, [(n, ds)]⟩
    | _ => none
  | _ => none
def iSeq (m : M D) : M Itm := xbnd m fun d _ st => match itV d st with
  | some i => some (.ok i, st)
  | none => none
theorem itOk_list {K : PySem.W.Frag} {r : Ad} {H : Hp} {it : Itm} {a : Addr} (h : ∀ r1 H1 st1, Sim K r1 H1 st1 → Tr K r H r1 H1 → it.hold st1 → ∃ vs, SqL K H1 a vs ∧ RDs K r1 H1 it.ds vs) : ItOk K r H it (Itl K a) := by
  intro r1 H1 st1 S t hh
  obtain ⟨vs, s, q⟩ := h r1 H1 st1 S t hh
  refine ⟨fun i hi => ⟨vs, s, by rw [← q.length]; exact hi⟩, fun i d hd => ?_⟩
  obtain ⟨v, h1, h2⟩ := q.get hd
  refine ⟨⟨vs, v, s, h1⟩, fun x H2 hy => ?_⟩
  obtain ⟨rfl, hy⟩ := hy
  have e := hy vs s
  rw [h1] at e
  cases e
  exact ⟨S, Ext.refl _ _ _, h2⟩
theorem itOk_tup {K : PySem.W.Frag} {r : Ad} {H : Hp} {it : Itm} {a : Addr} (h : ∀ r1 H1 st1, Sim K r1 H1 st1 → Tr K r H r1 H1 → it.hold st1 → ∃ vs, SqT K H1 a vs ∧ RDs K r1 H1 it.ds vs) : ItOk K r H it (Itt K a) := by
  intro r1 H1 st1 S t hh
  obtain ⟨vs, s, q⟩ := h r1 H1 st1 S t hh
  refine ⟨fun i hi => ⟨vs, s, by rw [← q.length]; exact hi⟩, fun i d hd => ?_⟩
  obtain ⟨v, h1, h2⟩ := q.get hd
  refine ⟨⟨vs, v, s, h1⟩, fun x H2 hy => ?_⟩
  obtain ⟨rfl, hy⟩ := hy
  have e := hy vs s
  rw [h1] at e
  cases e
  exact ⟨S, Ext.refl _ _ _, h2⟩
/-- a sequence among the values: where it stands, for later too -/
theorem itV_ok {K : PySem.W.Frag} {r : Ad} {H : Hp} {st : Store} {d : D} {v : V} {it : Itm} (S : Sim K r H st) (hd : RD K r H d v) (h : itV d st = some it) :
    ∃ a, v = .ref a ∧ (((∀ ds, d ≠ .tup ds) ∧ ItOk K r H it (Itl K a) ∧ ∃ vs, SqL K H a vs ∧ RDs K r H it.ds vs) ∨ ((∃ ds, d = .tup ds) ∧ ItOk K r H it (Itt K a) ∧ ∃ vs, SqT K H a vs ∧ RDs K r H it.ds vs)) := by
  cases d with
  | tup ds =>
    cases h
    simp only [RD] at hd
    obtain ⟨a, vs, rfl, s, q⟩ := hd
    exact ⟨a, rfl, .inr ⟨⟨ds, rfl⟩, itOk_tup fun r1 H1 st1 S1 t hh => ⟨vs, t.tup a vs s, q.tr t⟩, vs, s, q⟩⟩
  | lst ds =>
    cases h
    simp only [RD] at hd
    obtain ⟨a, vs, rfl, s, n, q⟩ := hd
    exact ⟨a, rfl, .inl ⟨(fun _ z => by cases z), itOk_list fun r1 H1 st1 S1 t hh => ⟨vs, .of (t.obj a _ s (fun _ z => by cases z) n).1, q.tr t⟩, vs, .of s, q⟩⟩
  | ref n =>
    unfold itV at h
    cases q : st[n]? with
    | none => simp only [q] at h; cases h
    | some o =>
      obtain ⟨a, rfl, h1, h2⟩ := S.at_ hd q
      simp only [q] at h
      refine ⟨a, rfl, .inl ⟨(fun _ z => by cases z), ?_⟩⟩
      have main : ∀ ds : List D, it = ⟨ds, [(n, ds)]⟩ → ItOk K r H it (Itl K a) := fun ds e => by
        subst e
        refine itOk_list fun r1 H1 st1 S1 t hh => ?_
        have hn := t.at_ n a h1
        rcases hh (n, ds) (by simp) with z | z
        · obtain ⟨vs, e1, t1⟩ := S1.ob n a _ hn z; exact ⟨vs, .of e1, t1⟩
        · obtain ⟨o, vs, e1, t1⟩ := S1.ob n a _ hn z; exact ⟨vs, .inl (.inr ⟨o, e1⟩), t1⟩
      cases o with
      | lst ds => cases h; obtain ⟨vs, e1, t⟩ := h2; exact ⟨main ds rfl, vs, .of e1, t⟩
      | flst ds => cases h; obtain ⟨o, vs, e1, t⟩ := h2; exact ⟨main ds rfl, vs, .inl (.inr ⟨o, e1⟩), t⟩
      | dct ks ds => cases h
  | _ => cases h
theorem i_seq {tg a : Expr} {m : M D} (h : E X EW a m) : I_ X EW tg a (iSeq m) := by
  refine PI.weak (PI.or (pi_list h) (pi_tup h)) ?_
  rintro σ H Q ⟨r, e, st, out, st', S, hE, h, P⟩
  cases q : m e st with
  | none => simp only [iSeq, xbnd, q, bnd] at h; cases h
  | some p =>
    obtain ⟨o, st1⟩ := p
    cases o with
    | exc x =>
      simp only [iSeq, xbnd, q, bnd] at h
      cases h
      exact .inl ⟨r, e, st, _, _, S, hE, q, P⟩
    | ok d =>
      simp only [iSeq, xbnd, q, bnd] at h
      cases q2 : itV d st1 with
      | none => rw [q2] at h; cases h
      | some it =>
        rw [q2] at h
        cases h
        -- which of both ways
        have isT : (∃ ds, d = .tup ds) ∨ ¬ ∃ ds, d = .tup ds := Classical.em _
        rcases isT with ⟨ds, rfl⟩ | nt
        · refine .inr ⟨r, e, st, _, _, S, hE, q, fun r1 H1 v S1 x1 hd => ?_⟩
          cases q2
          simp only [RD] at hd
          obtain ⟨a, vs, rfl, s, q⟩ := hd
          exact ⟨a, rfl, ⟨vs, s⟩, P r1 H1 _ S1 x1 (itOk_tup fun r1 H1 st1 S1 t hh => ⟨vs, t.tup a vs s, q.tr t⟩)⟩
        · refine .inl ⟨r, e, st, _, _, S, hE, q, fun r1 H1 v S1 x1 hd => ?_⟩
          obtain ⟨a, rfl, h⟩ := itV_ok S1 hd q2
          rcases h with ⟨_, h1, vs, h2, h3⟩ | ⟨z, _⟩
          · exact ⟨a, rfl, ⟨vs, h2⟩, P r1 H1 _ S1 x1 h1⟩
          · exact absurd z nt
end
end FW

set_option maxHeartbeats 4000000
namespace FW
open PySem L2

/-! ### for -/
open Classical in
noncomputable def forL (it : Itm) (g : MG) (b : MS) : List D → MS
  | [], e, st => if it.hold st then some (.nx e, st) else none
  | d :: ds, e, st => if it.hold st then
      match g d e st with
      | none => none
      | some (e1, st1) => match b e1 st1 with
        | some (.nx e2, st2) => forL it g b ds e2 st2
        | some (.ct e2, st2) => forL it g b ds e2 st2
        | some (.bk e2, st2) => some (.nx e2, st2)
        | o => o
    else none
noncomputable def sFor (it : M Itm) (g : MG) (b : MS) : MS := fun e st => bndS (it e st) e fun i st1 => forL i g b i.ds e st1
theorem hold_none {ds : List D} {st : Store} : Itm.hold ⟨ds, []⟩ st := fun _ h => by cases h
section
variable {X : Cx} {EW : EWt}
theorem s_for {sl : List Nat} {tg iter : Expr} {body : List Stmt} {pos : Pos} {mi : M Itm} {g : MG} {m : MS} (hp : PassesOwn (model X.prog X.w) X.A X.env X.xe) (hc : X.calm = true) (hi : I_ X EW tg iter mi) (hg : G X sl tg g) (hb : Ss X EW body m)
    (hs : ∀ x, foldedSetIterable iter X.env x = pure x := by intro _; rfl) : S_ X EW (.For tg iter body [] pos) (sFor mi g m) := by
  refine PS.weak (ps_for hp hc hi hg hb hs) ?_
  rintro D σ H ⟨r, e, st, out, st', S, hE, h, P⟩
  cases q : mi e st with
  | none => simp only [sFor, q, bndS] at h; cases h
  | some p =>
    obtain ⟨o, st1⟩ := p
    cases o with
    | exc x =>
      simp only [sFor, q, bndS] at h
      cases h
      exact ⟨r, e, st, _, _, S, hE, q, fun r' H' S' y => P r' H' σ S' y (hE.mono y)⟩
    | ok it =>
      simp only [sFor, q, bndS] at h
      refine ⟨r, e, st, _, _, S, hE, q, fun r1 H1 J S1 x1 ok => ?_⟩
      refine ⟨fun i n σ H => ∃ r e st, Sim X.K r H st ∧ RE X.K r H e σ ∧ ItOk X.K r H it J ∧ n = it.ds.length - i ∧ forL it g m (it.ds.drop i) e st = some (out, st') ∧ PostS X.K EW r H st' D out,
        ⟨it.ds.length, r1, e, st1, S1, hE.mono x1, ok, by simp, by simpa using h, P.later S S1 x1⟩, ?_⟩
      rintro i n σ H ⟨r, e, st, S, hE, ok, rfl, h, P⟩
      by_cases hlt : i < it.ds.length
      · rw [List.drop_eq_getElem_cons hlt] at h
        unfold forL at h
        split at h
        · rename_i hh
          obtain ⟨_, go⟩ := ok r H st S ⟨fun a o e _ n => ⟨e, n⟩, fun _ _ z => z, fun _ _ z => z⟩ hh
          obtain ⟨go, yld⟩ := go i it.ds[i] (by simp [hlt])
          refine .inr ⟨go, fun σ H => ∃ r e st, Sim X.K r H st ∧ RE X.K r H e σ ∧ ItOk X.K r H it J ∧ forL it g m (it.ds.drop (i + 1)) e st = some (out, st') ∧ PostS X.K EW r H st' D out,
            fun σ' H' ⟨r, e, st, S, hE, ok, h, P⟩ => ⟨it.ds.length - (i + 1), by omega, r, e, st, S, hE, ok, rfl, h, P⟩, fun x H2 hy => ?_⟩
          obtain ⟨S2, x2, hd⟩ := yld x H2 hy
          cases q : g it.ds[i] e st with
          | none => rw [q] at h; cases h
          | some p =>
            obtain ⟨e1, st1⟩ := p
            rw [q] at h
            dsimp only at h
            refine ⟨r, e, st, it.ds[i], e1, st1, S2, hE.mono x2, hd, q, fun r3 H3 σ3 S3 x3 hE3 o3 => ?_⟩
            have x23 := x2.trans' S S2 x3
            cases q2 : m e1 st1 with
            | none => rw [q2] at h; cases h
            | some p =>
              obtain ⟨o, st2⟩ := p
              rw [q2] at h
              refine ⟨r3, e1, st1, o, st2, S3, hE3, q2, ?_⟩
              cases o with
              | nx e2 => exact fun r4 H4 σ4 S4 x4 hE4 => ⟨r4, e2, st2, S4, hE4, ok.tr (x23.trans' S S3 x4).tr, h, P.later S S4 (x23.trans' S S3 x4)⟩
              | ct e2 => exact fun r4 H4 σ4 S4 x4 hE4 => ⟨r4, e2, st2, S4, hE4, ok.tr (x23.trans' S S3 x4).tr, h, P.later S S4 (x23.trans' S S3 x4)⟩
              | bk e2 => cases h; exact P.later S S3 x23
              | rt d => cases h; exact P.later S S3 x23
              | exc y e2 => cases h; exact P.later S S3 x23
        · cases h
      · rw [List.drop_eq_nil_of_le (by omega)] at h
        unfold forL at h
        split at h
        · rename_i hh
          cases h
          obtain ⟨stop, _⟩ := ok r H _ S ⟨fun a o e _ n => ⟨e, n⟩, fun _ _ z => z, fun _ _ z => z⟩ hh
          exact .inl ⟨stop i (by omega), P r H σ S (Ext.refl _ _ _) hE⟩
        · cases h
end

/-! ### comprehensions -/
def wipeE (e : Env) : List Nat → Env
  | [] => e
  | v :: vs => (wipeE e vs).set v none
theorem RE.none {K : PySem.W.Frag} {r : Ad} {H : Hp} {e : Env} {σ : L2.St} (h : RE K r H e σ) (i : Nat) : RE K r H (e.set i Option.none) (σ.set i Option.none) := by
  refine ⟨by simp [h.len], fun j d' e' => ?_⟩
  by_cases hj : i = j
  · subst hj
    by_cases hi : i < e.length
    · rw [List.getElem?_set_self hi] at e'; cases e'
    · rw [List.getElem?_eq_none (by simpa using hi)] at e'; cases e'
  · rw [List.getElem?_set_ne hj] at e'
    obtain ⟨w, a, b⟩ := h.at' j d' e'
    exact ⟨w, by rw [List.getElem?_set_ne hj]; exact a, b⟩
theorem RE.wipe {K : PySem.W.Frag} {r : Ad} {H : Hp} {e : Env} {σ : L2.St} (h : RE K r H e σ) : ∀ vs : List Nat, RE K r H (wipeE e vs) (L2.wipe σ vs)
  | [] => h
  | v :: vs => (RE.wipe h vs).none v
theorem wipe_get {σ : L2.St} {i : Nat} : ∀ {vs : List Nat}, i ∈ vs → (L2.wipe σ vs)[i]? = if i < σ.length then some none else none
  | [], h => by simp at h
  | v :: vs, h => by
    unfold L2.wipe
    by_cases e : v = i
    · subst e
      by_cases hl : v < σ.length
      · rw [List.getElem?_set_self (by rw [wipe_length]; exact hl), if_pos hl]
      · rw [List.getElem?_eq_none (by simp [wipe_length]; omega), if_neg hl]
    · rw [List.getElem?_set_ne e]
      exact wipe_get (by rcases List.mem_cons.mp h with z | z; exact absurd z.symm e; exact z)
theorem wipe_off {σ σ' : L2.St} {sl vs : List Nat} (o : Off sl (L2.wipe σ vs) σ') (hs : ∀ i ∈ sl, i ∈ vs) : L2.wipe σ' vs = L2.wipe σ vs := by
  have hl : σ'.length = σ.length := by rw [o.1, wipe_length]
  refine List.ext_getElem? fun i => ?_
  by_cases hi : i ∈ vs
  · rw [wipe_get hi, wipe_get hi, hl]
  · rw [wipe_out hi, o.2 i (fun m => hi (hs i m))]
open Classical in
noncomputable def lcL (it : Itm) (g : MG) (t : M Bool) (el : M D) (e : Env) : List D → List D → Store → Option (Res Ob × Store)
  | [], acc, st => if it.hold st then some (.ok (.lst acc), st) else none
  | d :: ds, acc, st => if it.hold st then
      match g d e st with
      | none => none
      | some (e1, st1) => match t e1 st1 with
        | some (.ok true, st2) => (match el e1 st2 with
          | some (.ok y, st3) => if acc.length < sizeLine then lcL it g t el e ds (acc ++ [y]) st3 else none
          | _ => none)
        | some (.ok false, st2) => lcL it g t el e ds acc st2
        | _ => none
    else none
/-- [el for target in it if t]: vs the block's own slots -/
noncomputable def xLc (vs : List Nat) (it : M Itm) (g : MG) (t : M Bool) (el : M D) : M Ob := fun e st => bnd (it e st) fun i st1 => lcL i g t el (wipeE e vs) i.ds [] st1
def xYes : M Bool := fun _ st => some (.ok true, st)
def Ts (X : Cx) (ifs : List Expr) (m : M Bool) : Prop := PTs X ifs (tT X.K noX m)
theorem ts_nil {X : Cx} : Ts X [] xYes := by
  refine ⟨fun pins s σ H Q I q => pts_nil.run pins s σ H Q I ?_⟩
  obtain ⟨r, e, st, out, st', S, hE, h, P⟩ := q
  cases h
  exact P r H true S (Ext.refl _ _ _) rfl
theorem ts_one {X : Cx} {c : Expr} {m : M Bool} (h : T X noX c m) : Ts X [c] m := pts_one h

section
variable {X : Cx} {EW : EWt}
/-- what holds at a comprehension's turn: from the walked thing's beginning (r0, H0) -/
structure LcI (K : PySem.W.Frag) (r0 : Ad) (H0 : Hp) (p : Addr) (acc : List D) (r : Ad) (H : Hp) (st : Store) : Prop where
  sim : Sim K ⟨r.r, p :: r.x⟩ H st
  ext : Ext K r0 H0 r H
  lst : ∃ vs, H p = some (.lst vs) ∧ RDs K ⟨r.r, p :: r.x⟩ H acc vs
theorem LcI.begin {K : PySem.W.Frag} {r0 : Ad} {H0 : Hp} {p : Addr} {st : Store} (S : Sim K r0 H0 st) (hp : H0 p = none) : LcI K r0 H0 p [] r0 (upd H0 p (.lst [])) st :=
  ⟨(S.hide hp).1, (S.side hp).2, [], upd_same, RDs.nil⟩
/-- behind a step within the block -/
theorem LcI.step {K : PySem.W.Frag} {r0 r r1 : Ad} {H0 H H1 : Hp} {p : Addr} {acc : List D} {st0 st st1 : Store} (S0 : Sim K r0 H0 st0) (L : LcI K r0 H0 p acc r H st) (S1 : Sim K r1 H1 st1) (x : Ext K ⟨r.r, p :: r.x⟩ H r1 H1) : LcI K r0 H0 p acc ⟨r1.r, r.x⟩ H1 st1 ∧ r1 = ⟨r1.r, p :: r.x⟩ := by
  have e1 : r1 = ⟨r1.r, p :: r.x⟩ := by cases r1; simp only [Ad.mk.injEq, true_and]; exact x.x
  obtain ⟨vs, h1, h2⟩ := L.lst
  have np : p ∉ r.r := (L.sim.xs p List.mem_cons_self).2
  refine ⟨⟨e1 ▸ S1, ?_, vs, x.keep p _ h1 np, by have := h2.mono x; rw [e1] at this; exact this⟩, e1⟩
  obtain ⟨l, el, hl⟩ := L.ext.pre
  obtain ⟨l2, el2, hl2⟩ := x.pre
  have thr : ∀ a, H0 a ≠ none → H a ≠ none := fun a h => by
    by_cases m : a ∈ r0.r
    · exact L.sim.there (show a ∈ r.r by rw [el]; exact List.mem_append_left _ m)
    · cases q : H0 a with
      | none => exact absurd q h
      | some o => rw [L.ext.keep a o q m]; simp
  refine ⟨L.ext.x, ⟨l ++ l2, by rw [el2, el, List.append_assoc], fun a m => ?_⟩, fun a o h n => ?_, fun a xs h => x.tup a xs (L.ext.tup a xs h)⟩
  · rcases List.mem_append.mp m with m | m
    · exact hl a m
    · cases q : H0 a with
      | none => rfl
      | some o => exact absurd (hl2 a m) (thr a (by rw [q]; simp))
  · refine x.keep a o (L.ext.keep a o h n) ?_
    show a ∉ r.r
    rw [el]
    intro m
    rcases List.mem_append.mp m with m | m
    · exact n m
    · rw [hl a m] at h; cases h
theorem LcI.add {K : PySem.W.Frag} {r0 r : Ad} {H0 H : Hp} {p : Addr} {acc : List D} {d : D} {v : V} {vs : List V} {st : Store} (L : LcI K r0 H0 p acc r H st) (hp : H0 p = none) (e : H p = some (.lst vs)) (q : RDs K ⟨r.r, p :: r.x⟩ H acc vs) (h : RD K ⟨r.r, p :: r.x⟩ H d v) :
    LcI K r0 H0 p (acc ++ [d]) r (upd H p (.lst (vs ++ [v]))) st := by
  obtain ⟨S2, t2⟩ := L.sim.grow (o := .lst (vs ++ [v])) List.mem_cons_self e (fun xs z => by rcases z with z | ⟨o, z⟩ <;> (rw [e] at z; cases z))
  refine ⟨S2, ⟨L.ext.x, L.ext.pre, fun a o h n => ?_, fun a xs h => t2.tup a xs (L.ext.tup a xs h)⟩, _, upd_same, (q.tr t2).append (RDs.cons (h.tr t2) RDs.nil)⟩
  rw [upd_ne (ne_of_none h hp)]
  exact L.ext.keep a o h n
theorem lc_weak {sl vs : List Nat} {mi : M Itm} {g : MG} {t : M Bool} {el : M D} {σ : L2.St} {H : Hp} {Q : VK} (hsl : ∀ i ∈ sl, i ∈ vs) (h : tF X.K EW (xLc vs mi g t el) σ H Q) : tLc (tI X.K EW mi) (tG X.K sl g) (tT X.K noX t) (tE X.K noX el) vs σ H Q := by
  obtain ⟨r, e, st, out, st', S, hE, h, P⟩ := h
  cases q : mi e st with
  | none => simp only [xLc, q, bnd] at h; cases h
  | some p =>
    obtain ⟨o, st1⟩ := p
    cases o with
    | exc x =>
      simp only [xLc, q, bnd] at h
      cases h
      exact ⟨r, e, st, _, _, S, hE, q, P⟩
    | ok it =>
      simp only [xLc, q, bnd] at h
      refine ⟨r, e, st, _, _, S, hE, q, fun r1 H1 J S1 x1 iok p hp => ?_⟩
      have hE1 := hE.mono x1
      refine ⟨fun i n H => ∃ r st acc, LcI X.K r1 H1 p acc r H st ∧ n = it.ds.length - i ∧ lcL it g t el (wipeE e vs) (it.ds.drop i) acc st = some (out, st'),
        ⟨it.ds.length, r1, st1, [], .begin S1 hp, by simp, by simpa using h⟩, ?_⟩
      rintro i n H ⟨r2, st2, acc, L, rfl, h⟩
      have hEw : RE X.K ⟨r2.r, p :: r2.x⟩ H (wipeE e vs) (L2.wipe σ vs) := by
        have t1 : Tr X.K r1 H1 ⟨r2.r, p :: r2.x⟩ H := ⟨fun a o e nt n => ⟨L.ext.keep a o e n.1, (L.ext.out e n).1, fun m => by
          rcases List.mem_cons.mp m with m | m
          · subst m; rw [hp] at e; cases e
          · exact (L.ext.out e n).2 m⟩, fun n a z => L.ext.at_ z, L.ext.tup⟩
        exact (hE1.tr t1).wipe _
      have iokL : ItOk X.K ⟨r2.r, p :: r2.x⟩ H it J := iok.tr ⟨fun a o e nt n => ⟨L.ext.keep a o e n.1, (L.ext.out e n).1, fun m => by
          rcases List.mem_cons.mp m with m | m
          · subst m; rw [hp] at e; cases e
          · exact (L.ext.out e n).2 m⟩, fun n a z => L.ext.at_ z, L.ext.tup⟩
      by_cases hlt : i < it.ds.length
      · rw [List.drop_eq_getElem_cons hlt] at h
        unfold lcL at h
        split at h
        · rename_i hh
          obtain ⟨_, go⟩ := iokL _ H st2 L.sim ⟨fun a o e _ n => ⟨e, n⟩, fun _ _ z => z, fun _ _ z => z⟩ hh
          obtain ⟨go, yld⟩ := go i it.ds[i] (by simp [hlt])
          refine .inr ⟨go, fun H => ∃ r st acc, LcI X.K r1 H1 p acc r H st ∧ lcL it g t el (wipeE e vs) (it.ds.drop (i + 1)) acc st = some (out, st'),
            fun H' ⟨r, st, acc, L, h⟩ => ⟨it.ds.length - (i + 1), by omega, r, st, acc, L, rfl, h⟩, fun x H3 hy => ?_⟩
          obtain ⟨S3, x3, hd⟩ := yld x H3 hy
          obtain ⟨L3, _⟩ := L.step S1 S3 x3
          cases q : g it.ds[i] (wipeE e vs) st2 with
          | none => rw [q] at h; cases h
          | some pp =>
            obtain ⟨e1, st3⟩ := pp
            rw [q] at h
            dsimp only at h
            refine ⟨_, _, st2, it.ds[i], e1, st3, S3, hEw.mono x3, hd, q, fun r4 H4 σ4 S4 x4 hE4 o4 => ?_⟩
            refine ⟨wipe_off o4 hsl, ?_⟩
            obtain ⟨L4, er4⟩ := L3.step S1 S4 x4
            cases q2 : t e1 st3 with
            | none => rw [q2] at h; cases h
            | some pp =>
              obtain ⟨o, st4⟩ := pp
              rw [q2] at h
              cases o with
              | exc y => cases h
              | ok b =>
                refine ⟨r4, e1, st3, .ok b, st4, S4, hE4, q2, fun r5 H5 b' S5 x5 hb => ?_⟩
                cases hb
                rw [er4] at x5
                obtain ⟨L5, er5⟩ := L4.step S1 S5 x5
                cases b with
                | false =>
                  rw [if_neg Bool.false_ne_true]
                  exact ⟨_, st4, acc, L5, h⟩
                | true =>
                  rw [if_pos rfl]
                  dsimp only at h
                  cases q3 : el e1 st4 with
                  | none => rw [q3] at h; cases h
                  | some pp =>
                    obtain ⟨o, st5⟩ := pp
                    rw [q3] at h
                    cases o with
                    | exc y => cases h
                    | ok y =>
                      dsimp only at h
                      split at h
                      · rename_i hz
                        refine ⟨r5, e1, st4, .ok y, st5, S5, (hE4.mono (by rw [er4]; exact x5)), q3, fun r6 H6 v S6 x6 hv => ?_⟩
                        rw [er5] at x6
                        obtain ⟨L6, er6⟩ := L5.step S1 S6 x6
                        obtain ⟨ws, e6, q6⟩ := L6.lst
                        refine ⟨ws, e6, by rw [← q6.length]; exact hz, ?_⟩
                        exact ⟨_, st5, acc ++ [y], L6.add hp e6 q6 (by rw [er6] at hv; exact hv), h⟩
                      · cases h
        · cases h
      · rw [List.drop_eq_nil_of_le (by omega)] at h
        unfold lcL at h
        split at h
        · rename_i hh
          cases h
          obtain ⟨stop, _⟩ := iokL _ H st' L.sim ⟨fun a o e _ n => ⟨e, n⟩, fun _ _ z => z, fun _ _ z => z⟩ hh
          refine .inl ⟨stop i (by omega), ?_⟩
          obtain ⟨ws, e2, q2⟩ := L.lst
          refine P r2 H p L.sim (x1.trans' S S1 L.ext) ?_ ⟨ws, e2, q2⟩ (fresh_back S S1 x1 hp)
          have : r2.x = r1.x := L.ext.x
          rw [this]
          exact (S1.notin hp).2
        · cases h
theorem f_lc {sl : List Nat} {own : List (Str × Nat)} {elt tg iter : Expr} {ifs : List Expr} {scope : Scope} {pos : Pos} {mi : M Itm} {g : MG} {t : M Bool} {el : M D} (hc : X.calm = true) (hN : X.N.Nodup) (hi : I_ X EW tg iter mi) (ok : blkC X.N X.env.scope scope own = true)
    (hg : ∀ (s : Shared) (H : Hp) (C : Addr) (cl : List (Str × Addr)) (fp : List Addr), G (X.blk s H scope (compEnvC scope cl C X.env) fp) sl tg g)
    (ht : ∀ (s : Shared) (H : Hp) (C : Addr) (cl : List (Str × Addr)) (fp : List Addr), Ts (X.blk s H scope (compEnvC scope cl C X.env) fp) ifs t)
    (he : ∀ (s : Shared) (H : Hp) (C : Addr) (cl : List (Str × Addr)) (fp : List Addr), E (X.blk s H scope (compEnvC scope cl C X.env) fp) noX elt el)
    (hsl : ∀ i ∈ sl, i ∈ own.map (·.2) := by decide) (hs : ∀ x, foldedSetIterable iter X.env x = pure x := by intro _; rfl) :
    EF X EW (.ListComp elt [⟨tg, iter, ifs, 0⟩] scope pos) (xLc (own.map (·.2)) mi g t el) := by
  exact PE.weak (pe_lc (g := tG X.K sl g) (tt := tT X.K noX t) (te := tE X.K noX el) hc hN hi (blkOk_by ok) hg ht he hs) fun σ H Q h => lc_weak hsl h
/-- y = [..] on a row of its own -/
theorem set_lc {sl : List Nat} {own : List (Str × Nat)} {i : Nat} {y : Str} {py : Pos} {elt tg iter : Expr} {ifs : List Expr} {scope : Scope} {pos spos : Pos} {mi : M Itm} {g : MG} {t : M Bool} {el : M D} {m' : M D} (hc : X.calm = true) (hN : X.N.Nodup) (hi : I_ X EW tg iter mi) (ok : blkC X.N X.env.scope scope own = true)
    (hg : ∀ (s : Shared) (H : Hp) (C : Addr) (cl : List (Str × Addr)) (fp : List Addr), G (X.blk s H scope (compEnvC scope cl C X.env) fp) sl tg g)
    (ht : ∀ (s : Shared) (H : Hp) (C : Addr) (cl : List (Str × Addr)) (fp : List Addr), Ts (X.blk s H scope (compEnvC scope cl C X.env) fp) ifs t)
    (he : ∀ (s : Shared) (H : Hp) (C : Addr) (cl : List (Str × Addr)) (fp : List Addr), E (X.blk s H scope (compEnvC scope cl C X.env) fp) noX elt el)
    (hm : m' = xVal (xLc (own.map (·.2)) mi g t el) ∨ m' = xNew (xLc (own.map (·.2)) mi g t el)) (hy : X.N[i]? = some y) (hyl : X.env.scope.names.lookup y = some .local) (hsw : swapsWith (.ListComp elt [⟨tg, iter, ifs, 0⟩] scope pos) (some (.Name y py)) spos.line X.env = pure true)
    (hsl : ∀ i ∈ sl, i ∈ own.map (·.2) := by decide) (hs : ∀ x, foldedSetIterable iter X.env x = pure x := by intro _; rfl) :
    S_ X EW (.Assign [.Name y py] (.ListComp elt [⟨tg, iter, ifs, 0⟩] scope pos) spos) (sAsg m' (gN i)) := by
  refine PS.weak (ps_setLc (g := tG X.K sl g) (tt := tT X.K noX t) (te := tE X.K noX el) hc hN hy hyl hsw hi (blkOk_by ok) hg ht he hs) ?_
  rintro D σ H h
  have h2 : tE X.K EW m' σ H (fun x H1 => D.nx (σ.set i (some x)) H1) := by
    obtain ⟨r, e, st, out, st', S, hE, h, P⟩ := h
    refine bndS_step S hE h P fun r1 H1 x d st1 S1 x1 hE1 hd h1 P1 => ?_
    cases h1
    exact P1 r1 H1 _ S1 (Ext.refl _ _ _) (hE1.set hd)
  refine lc_weak hsl ?_
  rcases hm with rfl | rfl
  · exact val_weak h2
  · exact new_weak h2
end
end FW

set_option maxHeartbeats 4000000
/-! Defs that run where no repr is under way: the same promises as the layer's own, over arounds whose guards are known to be none -/
namespace FW
open PySem PySem.Spec L2
open PyProof.Rows (envOfC)

structure FnG (P : Program) (w : World) (K : PySem.W.Frag) (mg : Str → Option Value) (base : Heap) (CX : CXT) (k : Nat) (f : Addr) (fd : FuncData) (ps : List Str) (sp : Sp) : Prop where
  len : ∀ vs H Q E, sp vs H Q E → vs.length = ps.length
  go : ∀ (A : Around) (outer : List PySem.Env) (s : Shared) (H : Hp) (args : Args) (us : List Value) (vs : List V) (Q : VK) (E : XK),
    Room k A → A.guards = some [] → Env0 P w K mg base A outer s H → BindsTo s fd args (ps.zip us) → Vals vs us → sp vs H Q E → codeAny (model P w) A (.call (.ref f) args) (CR CX outer P w H s Q E) s
section
variable {P : Program} {w : World} {K : PySem.W.Frag} {mg : Str → Option Value} {base : Heap} {CX : CXT} {f : Addr} {fd : FuncData} {ps : List Str}
theorem FnG.imp {k : Nat} {sp sp' : Sp} (F : FnG P w K mg base CX k f fd ps sp) (h : ∀ vs H Q E, sp' vs H Q E → sp vs H Q E) : FnG P w K mg base CX k f fd ps sp' :=
  ⟨fun vs H Q E q => F.len vs H Q E (h vs H Q E q), fun A outer s H args us vs Q E hr hg he hb hv q => F.go A outer s H args us vs Q E hr hg he hb hv (h vs H Q E q)⟩
/-- a def by its body -/
theorem FnG.of {x qual : Str} {st : Stmt} {N : List Str} {k : Nat} {sp : Sp} (F : Fun K x qual st f fd) (S : FnScope N ps (defScope st)) (len : ∀ vs H Q E, sp vs H Q E → vs.length = ps.length)
    (hbody : ∀ (cdv : Value) (A : Around) (outer : List PySem.Env) (s : Shared) (H : Hp) (vs : List V) (Q : VK) (E : XK), Room k (A.deeper (envOfC qual (defScope st) s.heap.objs.size f cdv)) → A.guards = some [] → sp vs H Q E →
      ∃ t, PSs (cxOf CX P w K mg base N qual (defScope st) f cdv A outer s H E) (defBody st) t ∧ t { nx := fun _ H' => Q .non H', rt := Q } (L2.start N vs) H) : FnG P w K mg base CX (k + 1) f fd ps sp := by
  obtain ⟨oc, od, kV, doc, pm, an, cdv, ct, osl, rfl, lk, hcd⟩ := F.ex
  refine ⟨len, ?_⟩
  intro A outer s H args us vs Q E hr hgu e0 hb rv hsp
  have lim : s.heap.NoLimit := e0.mod.nolimit.keeps (fun b o e => (e0.bs b o e).1)
  have KX : K.In s.heap := e0.mod.kin.keeps (fun b o e => (e0.bs b o e).1)
  have names : ∀ y ∈ ps.zip us, (defScope st).names.lookup y.1 = some .local ∨
      ((defScope st).names.lookup y.1 = some .cell ∧ ((cellsFrom (s.heap.objs.size + 1) (defScope st).names []).lookup y.1).isSome = true) := by
    rintro ⟨n, v⟩ hy
    cases S.par n (List.of_mem_zip hy).1 with
    | inl q => exact .inl q
    | inr q => exact .inr ⟨q, PySem.W.cellsFrom_some _ _ _ (.inl q)⟩
  refine codeAny_call_function hr.depth (KX _ _ lk) rfl S.co S.gen rfl (PySem.W.codeRec_of KX hcd) (hb _ _ _ _ ?_)
  refine wpAny_newFunctionEnv_cells S.kind names (fun env he s1 x => ?_)
  subst he
  refine ⟨lim.keeps x.toInCall.keep, codeAny_func ?_⟩
  obtain ⟨t, ht, hq⟩ := hbody cdv A outer s H vs Q E (hr.deeper _) hgu hsp
  have I := inv_start (CX := CX) (E := E) S hr.hd e0 (len vs H Q E hsp) rv x
  refine wpAny_mono (ht.run [] s1 (L2.start N vs) H _ I hq) ?_ (fun e s' z => z)
  intro fl s' hs
  have done : ∀ {σ' : L2.St} {H' : Hp} {v : V} {u : Value}, Inv (cxOf CX P w K mg base N qual (defScope st) f cdv A outer s H E) [] σ' H' s' → RelV v u → Q v H' → CE outer P w H s Q u s' :=
    fun J r1 q => ⟨_, _, J.os, J.bare, J.base, J.hok, r1, q⟩
  cases fl with
  | next =>
    obtain ⟨σ', H', J, q⟩ := hs
    exact done (v := V.non) (u := Value.none) J rfl q
  | ret u =>
    obtain ⟨v, σ', H', J, r1, q⟩ := hs
    exact done J r1 q
  | brk => obtain ⟨_, _, _, q⟩ := hs; exact q.elim
  | cont => obtain ⟨_, _, _, q⟩ := hs; exact q.elim
end

/-- the callee runs -/
theorem runG {X : Cx} {CX : CXT} {k : Nat} {f : Addr} {fd : FuncData} {ps : List Str} {sp : Sp} {E : L2.St → XK} {pins : List (Addr × Obj)} {σ : L2.St} {H : Hp} {s : Shared} {Q : VK} {us : List Value} {vs : List V}
    (F : FnG X.prog X.w X.K X.mg X.base CX k f fd ps sp) (hr : Room k X.A) (hgu : X.A.guards = some []) (hb : Binds X.K fd ps []) (hx : ∀ (pins : List (Addr × Obj)) (σ : L2.St) (H : Hp) (s : Shared) (e : Value) (s' : Shared), Inv X pins σ H s → CX X.stack H s (E σ) e s' → X.xe e s')
    (I : Inv X pins σ H s) (rv : Vals vs us) (h : sp vs H Q (E σ)) : wpAny (model X.prog X.w) X.A (call (.ref f) us) (EP X pins σ Q) X.xe s := by
  have hl : us.length = ps.length := by rw [← rv.length]; exact F.len vs H Q _ h
  have b := hb s us I.kIn (by rw [List.append_nil]; exact hl)
  rw [List.append_nil] at b
  refine wpAny_call (codeAny_mono (F.go X.A X.stack s H ⟨us, []⟩ us vs Q (E σ) hr hgu I.env0 b rv h) ?_)
  intro res s' hq
  cases res with
  | error e => exact hx pins σ H s e s' I hq
  | ok fl =>
    cases fl with
    | ret u => exact I.after hq
    | next => exact hq.elim
    | brk => exact hq.elim
    | cont => exact hq.elim
theorem pe_callG {X : Cx} {CX : CXT} {k : Nat} {f : Addr} {fd : FuncData} {ps : List Str} {sp : Sp} {E : L2.St → XK} {x : Str} {p pos : Pos} {e : Expr} {es : List Expr} {t : TA}
    (F : FnG X.prog X.w X.K X.mg X.base CX k f fd ps sp) (hr : Room k X.A) (hgu : X.A.guards = some []) (hg : Gl X x) (hm : X.mg x = some (.ref f)) (hk : PySem.W.keepIn X.K (.ref f) = true) (hb : Binds X.K fd ps [])
    (hx : ∀ (pins : List (Addr × Obj)) (σ : L2.St) (H : Hp) (s : Shared) (e : Value) (s' : Shared), Inv X pins σ H s → CX X.stack H s (E σ) e s' → X.xe e s') (ha : PA X (e :: es) t)
    (hdb : (x == ("__debug__" : Str)) = false := by decide) (he : starEach (e :: es) X.env = (false, eval e X.env) :: starEach es X.env := by rfl) (hpl : (backTo pos (starEach es X.env)).any (·.1) = false := by rfl) :
    PE X (.Call (.Name x p) (e :: es) [] pos) (fun σ H Q => t σ H fun vs H1 => sp vs H1 Q (E σ)) := by
  constructor
  intro pins s σ H Q I h
  refine wpAny_Call_Name_kw (ld_glob I hg hm ?_ hdb)
  refine PySem.W.callWith_K (h₀ := X.base) I.ok.mod.kin hk (thn (ha.run pos pins s σ H _ I h) ?_) he hpl
  rintro us s1 ⟨vs, H1, I1, rv, q⟩
  exact ⟨I1.kIn, runG F hr hgu hb hx I1 rv q⟩
theorem pe_callG0 {X : Cx} {CX : CXT} {k : Nat} {f : Addr} {fd : FuncData} {ps : List Str} {sp : Sp} {E : L2.St → XK} {x : Str} {p pos : Pos}
    (F : FnG X.prog X.w X.K X.mg X.base CX k f fd ps sp) (hr : Room k X.A) (hgu : X.A.guards = some []) (hg : Gl X x) (hm : X.mg x = some (.ref f)) (hk : PySem.W.keepIn X.K (.ref f) = true) (hb : Binds X.K fd ps [])
    (hx : ∀ (pins : List (Addr × Obj)) (σ : L2.St) (H : Hp) (s : Shared) (e : Value) (s' : Shared), Inv X pins σ H s → CX X.stack H s (E σ) e s' → X.xe e s') (hdb : (x == ("__debug__" : Str)) = false := by decide) :
    PE X (.Call (.Name x p) [] [] pos) (fun σ H Q => sp [] H Q (E σ)) := by
  constructor
  intro pins s σ H Q I h
  refine wpAny_Call_Name_kw (ld_glob I hg hm ?_ hdb)
  exact PySem.W.callWith_K0 I.kIn hk (runG (us := []) F hr hgu hb hx I .nil h)

/-- the law's call, over the heap behind the top -/
theorem law_callG {P : Program} {w : World} {K : PySem.W.Frag} {mg mb : Str → Option Value} {k : Nat} {fa a : Addr} {fd : FuncData} {x : Str} {sp : Sp} {s₁ : Shared} {vs : List Value} {ns : List Int}
    (KX : K.In s₁.heap) (hns : s₁.heap.Ns mainGlobals mg) (hb : s₁.heap.Ns builtinsNs mb) (hbb : ∀ x : Str, x ≠ "__name__" → mb x = bootBuiltins x) (hlim : s₁.heap.NoLimit) (hg : s₁.gens = #[])
    (ha : s₁.heap.get? a = some { cls := .type "list", data := .seq vs.toArray }) (hi : PyProof.Rows.IntsAre vs ns) (hl : ns.length ≤ sizeLine) (hr : Room k PySem.callerA)
    (F : ∀ base : Heap, K.In base → base.Ns mainGlobals mg → FnG P w K mg base CX0 k fa fd [x] sp) (hbind : ∀ (s : Shared) (u : Value), BindsTo s fd ⟨[u], []⟩ [(x, u)])
    (hsp : ∀ H : Hp, Only H → SqL K H a (ns.map V.int) → sp [.ref a] H (fun v _ => v = .bl true) fun _ _ _ => False) :
    codeAny (model P w) PySem.callerA (.call (.ref fa) ⟨[.ref a], []⟩) (fun res s' => res = .ok (.ret (.bool true)) ∧ OldK s₁.heap s'.heap ∧ s'.os = s₁.os ∧ PyProof.Rows.AllBare s'.gens) s₁ := by
  have rv := vals_ints hi
  have lenV := hi.length
  have main : ∀ H : Hp, Only H → SqL K H a (ns.map V.int) → HOk P w H s₁.heap → (∀ b, H b ≠ none → b = a ∧ K.lookup a = none) →
      codeAny (model P w) PySem.callerA (.call (.ref fa) ⟨[.ref a], []⟩) (fun res s' => res = .ok (.ret (.bool true)) ∧ OldK s₁.heap s'.heap ∧ s'.os = s₁.os ∧ PyProof.Rows.AllBare s'.gens) s₁ := by
    intro H hO hS hok hA
    have other : ∀ {b : Addr} {o : Obj}, s₁.heap.get? b = some o → (∀ es ep, o.data = .dict es ep → H b = none) := by
      intro b o e es ep d
      cases q : H b with
      | none => rfl
      | some u =>
        obtain ⟨rfl, _⟩ := hA b (by rw [q]; simp)
        rw [ha] at e
        cases e
        cases (show Data.seq vs.toArray 0 = Data.dict es ep from d)
    have ns' : ∀ {b : Addr} {m : Str → Option Value}, s₁.heap.Ns b m → (hidT s₁.heap H).Ns b m := by
      rintro b m ⟨o, es, ep, e, d, r⟩
      exact ⟨o, es, ep, hidT_get e (other e es ep d), d, r⟩
    have hKb : K.In (hidT s₁.heap H) := by
      intro b o e
      refine hidT_get (KX b o e) ?_
      cases q : H b with
      | none => rfl
      | some u =>
        obtain ⟨rfl, z⟩ := hA b (by rw [q]; simp)
        rw [z] at e
        cases e
    have hM : Mod K mg (hidT s₁.heap H) := by
      obtain ⟨mc, h1, h2⟩ := hlim
      exact ⟨hKb, ns' hns, ⟨mb, ns' hb, hbb⟩, ⟨mc, ns' h1, h2⟩⟩
    have e0 : Env0 P w K mg (hidT s₁.heap H) PySem.callerA [] s₁ H := by
      refine ⟨rfl, hM, fun b o e => of_hidT e, Nat.le_of_eq (hidT_size _ _), trivial, fun b hb => ?_, hok, .of_eq hg⟩
      exact absurd (show b ∈ ([] : List Addr) from hb) (by simp)
    have fin := (F _ hKb (ns' hns)).go PySem.callerA [] s₁ H ⟨[.ref a], []⟩ [.ref a] [.ref a] _ _ hr rfl e0 (hbind s₁ (.ref a)) (.cons rfl .nil) (hsp H hO hS)
    refine codeAny_mono fin ?_
    intro res s' h
    cases res with
    | error e => exact h.elim
    | ok fl =>
      cases fl with
      | next => exact h.elim
      | brk => exact h.elim
      | cont => exact h.elim
      | ret u =>
        obtain ⟨v, H', os, bare, un, hok', r', q⟩ := h
        cases (show v = .bl true from q)
        obtain rfl : u = Value.bool true := r'
        refine ⟨rfl, OldK.of_keep (fun b o e => ?_), os, bare⟩
        cases qb : H b with
        | none => exact un.keep b o e qb (fun z => absurd (show b ∈ ([] : List Addr) from z) (by simp)) (by simp)
        | some u =>
          cases hO b with
          | inl z => rw [qb] at z; cases z
          | inr z =>
            obtain ⟨ob, xs, z⟩ := z
            obtain ⟨e1, _⟩ := hok b _ z
            obtain ⟨e2, _⟩ := hok' b _ (un.frzs b ob _ z)
            rw [e] at e1
            cases e1
            exact e2
  cases hk : K.lookup a with
  | some o =>
    have e := KX a o hk
    rw [ha] at e
    cases e
    refine main (fun _ => none) (fun _ => .inl rfl) (.inr ⟨_, vs.toArray, _, hk, rfl, rfl, rfl, ?_, by simpa using rv⟩) (fun b u z => ?_) (fun b z => absurd rfl z)
    · rw [List.size_toArray, lenV]; exact hl
    · cases (show (none : Option HO) = some u from z)
  | none =>
    refine main (fun b => if b = a then some (.frz { cls := .type "list", data := .seq vs.toArray } (.lst (ns.map V.int))) else none) (fun b => ?_) ?_ (fun b u z => ?_) (fun b z => ⟨?_, hk⟩)
    · by_cases hb : b = a
      · exact .inr ⟨_, _, if_pos hb⟩
      · exact .inl (if_neg hb)
    · exact .inl (.inr ⟨{ cls := .type "list", data := .seq vs.toArray }, if_pos rfl⟩)
    · by_cases hb : b = a
      · cases (if_pos hb).symm.trans z
        subst hb
        exact ⟨ha, by rw [List.length_map]; exact hl, vs, _, rv, ha⟩
      · cases (if_neg hb).symm.trans z
    · by_cases hb : b = a
      · exact hb
      · exact absurd (if_neg hb) z
theorem walkG {l : PySem.W.OpenLaw} {n k : Nat} {q : Program} {loose : List Str} {XP : (Str → Option Value) → Heap → Prop} {YP : World → Heap → Prop} {d : DefRec} {x : Str} (hn : l.most = some n) (hn2 : n ≤ sizeLine) (hdf : d.params.defaults = []) (hr : Room k PySem.callerA)
    (F : ∀ (w : World) (mg : Str → Option Value) (fa : Addr) (h : Heap), YP w h → h.Ns mainGlobals mg → mg d.name = some (.ref fa) → ∃ (K : PySem.W.Frag) (fd : FuncData) (sp : Sp), K.In h ∧ (∀ (s : Shared) (u : Value), BindsTo s fd ⟨[u], []⟩ [(x, u)]) ∧
      (∀ (H : Hp) (a : Addr) (ns : List Int), ns.length ≤ n → Only H → SqL K H a (ns.map V.int) → sp [.ref a] H (fun v _ => v = .bl true) fun _ _ _ => False) ∧
      ∀ base : Heap, K.In base → base.Ns mainGlobals mg → FnG l.prog w K mg base CX0 k fa fd [x] sp) : PySem.W.WalkO q loose XP YP l.row.toRowW d [] (fun f vs => PySem.call f vs) := by
  refine Att.attach_call hn hdf ?_
  intro w s₀ s₁ mg mb fa o pm cd doc a vs ns G Y ho hd hcd hmg hobj hints hlen hg
  obtain ⟨K, fd, sp, KX, hb, hsp, hF⟩ := F w mg fa _ Y G.T.g hmg
  exact law_callG KX G.T.g G.T.b G.T.builtins G.T.nolimit hg hobj hints (Nat.le_trans hlen hn2) hr hF hb (fun H hO hS => hsp H a ns hlen hO hS)
end FW

set_option maxHeartbeats 4000000
namespace FW
open PySem L2
open PyProof.Rows (envOfC)

/-! ### defs -/
/-- what a def is worth that raises nothing -/
def spF (K : PySem.W.Frag) (n : Nat) (F : Fn0) : Sp := fun vs H Q _ => ∃ r st ds d st', Sim K r H st ∧ RDs K r H ds vs ∧ ds.length = n ∧ F ds st = some (d, st') ∧ Ok K r H Q d st'
def env0 (n : Nat) (ds : List D) : Env := ds.map some ++ List.replicate (n - ds.length) none
/-- a body's worth -/
def runF (n : Nat) (m : MS) : Fn0 := fun ds st => match m (env0 n ds) st with
  | some (.rt d, st') => some (d, st')
  | some (.nx _, st') => some (.non, st')
  | _ => none
section
variable {P : Program} {w : World} {K : PySem.W.Frag} {mg : Str → Option Value} {base : Heap}
theorem fn_ok {x qual : Str} {st : Stmt} {f : Addr} {fd : FuncData} {N ps : List Str} {k : Nat} {m : MS} (F : Fun K x qual st f fd) (S : FnScope N ps (defScope st))
    (hb : ∀ (cdv : Value) (A : Around) (outer : List PySem.Env) (s : Shared) (H : Hp) (E : XK), Room k (A.deeper (envOfC qual (defScope st) s.heap.objs.size f cdv)) → A.guards = some [] → Ss (cxOf CX0 P w K mg base N qual (defScope st) f cdv A outer s H E).nox noX (defBody st) m) :
    FnG P w K mg base CX0 (k + 1) f fd ps (spF K ps.length (runF N.length m)) := by
  refine FnG.of F S (fun vs H Q E h => ?_) fun cdv A outer s H vs Q E hr hgu h => ⟨_, (hb cdv A outer s H E hr hgu).nox, ?_⟩
  · obtain ⟨r, st, ds, d, st', _, h2, h3, _⟩ := h
    rw [← h2.length, h3]
  · obtain ⟨r, st, ds, d, st', h1, h2, h3, h4, h5⟩ := h
    unfold runF at h4
    cases q : m (env0 N.length ds) st with
    | none => rw [q] at h4; cases h4
    | some p =>
      obtain ⟨o, st1⟩ := p
      rw [q] at h4
      refine ⟨r, env0 N.length ds, st, o, st1, h1, RE.start h2, q, ?_⟩
      cases o with
      | rt d' => cases h4; exact h5
      | nx e => cases h4; exact fun r' H' σ' S' x' _ => h5 r' H' .non S' x' (by simp only [RD])
      | _ => cases h4
/-- a def's promise for another, weaker function -/
theorem fn_imp {f : Addr} {fd : FuncData} {ps : List Str} {k n : Nat} {F G : Fn0} {CX : CXT} (h : FnG P w K mg base CX k f fd ps (spF K n F))
    (w' : ∀ r H st ds vs d st' Q, Sim K r H st → RDs K r H ds vs → ds.length = n → G ds st = some (d, st') → Ok K r H Q d st' → ∃ d1 st1, F ds st = some (d1, st1) ∧ Ok K r H Q d1 st1) :
    FnG P w K mg base CX k f fd ps (spF K n G) := h.imp fun vs H Q E ⟨r, st, ds, d, st', h1, h2, h3, h4, h5⟩ => by
  obtain ⟨d1, st1, h6, h7⟩ := w' r H st ds vs d st' Q h1 h2 h3 h4 h5
  exact ⟨r, st, ds, d1, st1, h1, h2, h3, h6, h7⟩
end
/-- a call of a def -/
def Cl (X : Cx) (k : Nat) (x : Str) (n : Nat) (F : Fn0) : Prop := ∃ (f : Addr) (fd : FuncData) (ps : List Str), FnG X.prog X.w X.K X.mg X.base CX0 k f fd ps (spF X.K n F) ∧ X.mg x = some (.ref f) ∧ PySem.W.keepIn X.K (.ref f) = true ∧ Binds X.K fd ps []
section
variable {X : Cx} {EW : EWt}
/-- a call by values: with so many arguments -/
def xCl (n : Nat) (F : Fn0) (as : M (List D)) : M D := xN (fun ds st => if ds.length = n then F ds st else none) as
theorem call_weak {K : PySem.W.Frag} {n : Nat} {F : Fn0} {ms : M (List D)} {σ : L2.St} {H : Hp} {Q : VK} (h : tE K EW (xCl n F ms) σ H Q) : tA K EW ms σ H fun vs H1 => spF K n F vs H1 Q E0 := by
  obtain ⟨r, e, st, out, st', S, hE, h, P⟩ := h
  refine bnd_step S hE h P fun r1 H1 vs ds st1 S1 x1 hE1 hd h1 P1 => ?_
  obtain ⟨z, h3, rfl⟩ := ok0_some h1
  dsimp only at h3
  split at h3
  · exact ⟨r1, st1, ds, z, st', S1, hd, by assumption, h3, P1⟩
  · cases h3
theorem e_call {k j n : Nat} {x : Str} {p pos : Pos} {a : Expr} {es : List Expr} {F : Fn0} {ms : M (List D)} (c : Cl X k x n F) (hr : Room j X.A) (hgu : X.A.guards = some []) (hk : k ≤ j) (hg : Gl X x) (ha : As X EW (a :: es) ms) (hdb : (x == ("__debug__" : Str)) = false := by decide)
    (he : starEach (a :: es) X.env = (false, eval a X.env) :: starEach es X.env := by rfl) (hpl : (backTo pos (starEach es X.env)).any (·.1) = false := by rfl) : E X EW (.Call (.Name x p) (a :: es) [] pos) (xCl n F ms) := by
  obtain ⟨f, fd, ps, Fk, hm, hkp, hb⟩ := c
  exact PE.weak (pe_callG (E := fun _ => E0) Fk (hr.mono hk) hgu hg hm hkp hb (fun _ _ _ _ _ _ _ z => z.elim) ha hdb he hpl) fun σ H Q h => call_weak h
theorem e_call0 {k j : Nat} {x : Str} {p pos : Pos} {F : Fn0} (c : Cl X k x 0 F) (hr : Room j X.A) (hgu : X.A.guards = some []) (hk : k ≤ j) (hg : Gl X x) (hdb : (x == ("__debug__" : Str)) = false := by decide) : E X EW (.Call (.Name x p) [] [] pos) (xCl 0 F aN) := by
  obtain ⟨f, fd, ps, Fk, hm, hkp, hb⟩ := c
  refine PE.weak (pe_callG0 (E := fun _ => E0) Fk (hr.mono hk) hgu hg hm hkp hb (fun _ _ _ _ _ _ _ z => z.elim) hdb) ?_
  rintro σ H Q ⟨r, e, st, out, st', S, hE, h, P⟩
  have h : ok0 (F [] st) = some (out, st') := h
  obtain ⟨z, h3, rfl⟩ := ok0_some h
  exact ⟨r, st, [], z, st', S, RDs.nil, rfl, h3, P⟩
/-- a built-in function | a built-in type, called -/
theorem e_bf {x : Str} {p pos : Pos} {a : Expr} {es : List Expr} {id : String} {rr : List V → Hp → VK → Prop} {F : Fn0} {ms : M (List D)} (hc : CallR X (.builtin id) rr) (hf : CallS X.K rr F) (hg : Gl X x) (hm : X.mg x = none) (hv : bootBuiltins x = some (.builtin id)) (ha : As X EW (a :: es) ms)
    (hn : x ≠ "__name__" := by decide) (hdb : (x == ("__debug__" : Str)) = false := by decide) (he : starEach (a :: es) X.env = (false, eval a X.env) :: starEach es X.env := by rfl) (hpl : (backTo pos (starEach es X.env)).any (·.1) = false := by rfl) : E X EW (.Call (.Name x p) (a :: es) [] pos) (xN F ms) := by
  refine PE.weak (pe_callB hc hg hm hv ha hn hdb he hpl) ?_
  rintro σ H Q ⟨r, e, st, out, st', S, hE, h, P⟩
  refine bnd_step S hE h P fun r1 H1 vs ds st1 S1 x1 hE1 hd h1 P1 => ?_
  obtain ⟨z, h3, rfl⟩ := ok0_some h1
  exact hf r1 H1 st1 ds vs z st' Q S1 hd h3 P1
theorem e_ty {x : Str} {p pos : Pos} {a : Expr} {es : List Expr} {Ty : String} {rr : List V → Hp → VK → Prop} {F : Fn0} {ms : M (List D)} (hc : CallR X (.type Ty) rr) (hf : CallS X.K rr F) (hg : Gl X x) (hm : X.mg x = none) (hv : bootBuiltins x = some (.type Ty)) (ha : As X EW (a :: es) ms)
    (hn : x ≠ "__name__" := by decide) (hdb : (x == ("__debug__" : Str)) = false := by decide) (he : starEach (a :: es) X.env = (false, eval a X.env) :: starEach es X.env := by rfl) (hpl : (backTo pos (starEach es X.env)).any (·.1) = false := by rfl) : E X EW (.Call (.Name x p) (a :: es) [] pos) (xN F ms) := by
  refine PE.weak (pe_callTy hc hg hm hv ha hn hdb he hpl) ?_
  rintro σ H Q ⟨r, e, st, out, st', S, hE, h, P⟩
  refine bnd_step S hE h P fun r1 H1 vs ds st1 S1 x1 hE1 hd h1 P1 => ?_
  obtain ⟨z, h3, rfl⟩ := ok0_some h1
  exact hf r1 H1 st1 ds vs z st' Q S1 hd h3 P1
end

/-! ### things thrown away behind a def: fewer objects -/
mutual
/-- all its objects lie below n -/
def Lt (n : Nat) : D → Prop
  | .tup ds => Lts n ds
  | .lst ds => Lts n ds
  | .dct ks ds => Lts n ds
  | .ref k => k < n
  | _ => True
def Lts (n : Nat) : List D → Prop
  | [] => True
  | d :: ds => Lt n d ∧ Lts n ds
end
def LtO (n : Nat) : Ob → Prop
  | .lst ds => Lts n ds
  | .flst ds => Lts n ds
  | .dct _ ds => Lts n ds
/-- a store all of whose values lie within -/
def Wf (st : Store) : Prop := ∀ o ∈ st, LtO st.length o
mutual
/-- d' is d, the objects from n on being values -/
inductive Fz (st : Store) (n : Nat) : D → D → Prop
  | non : Fz st n .non .non
  | bl (b) : Fz st n (.bl b) (.bl b)
  | int (i) : Fz st n (.int i) (.int i)
  | str (x) : Fz st n (.str x) (.str x)
  | cst (c) : Fz st n (.cst c) (.cst c)
  | ref (k) (h : k < n) : Fz st n (.ref k) (.ref k)
  | tup {ds ds'} (h : Fzs st n ds ds') : Fz st n (.tup ds) (.tup ds')
  | lst {ds ds'} (h : Fzs st n ds ds') : Fz st n (.lst ds) (.lst ds')
  | dct {ks ds ds'} (h : Fzs st n ds ds') : Fz st n (.dct ks ds) (.dct ks ds')
  | olst {k ds ds'} (hk : n ≤ k) (e : st[k]? = some (.lst ds)) (h : Fzs st n ds ds') : Fz st n (.ref k) (.lst ds')
  | odct {k ks ds ds'} (hk : n ≤ k) (e : st[k]? = some (.dct ks ds)) (h : Fzs st n ds ds') : Fz st n (.ref k) (.dct ks ds')
inductive Fzs (st : Store) (n : Nat) : List D → List D → Prop
  | nil : Fzs st n [] []
  | cons {d d' ds ds'} (h : Fz st n d d') (t : Fzs st n ds ds') : Fzs st n (d :: ds) (d' :: ds')
end
mutual
theorem Fz.refl {st : Store} {n : Nat} : ∀ {d : D}, Lt n d → Fz st n d d
  | .non, _ => .non
  | .bl _, _ => .bl _
  | .int _, _ => .int _
  | .str _, _ => .str _
  | .cst _, _ => .cst _
  | .ref k, h => .ref k (by simpa only [Lt] using h)
  | .tup ds, h => .tup (Fzs.refl (by simpa only [Lt] using h))
  | .lst ds, h => .lst (Fzs.refl (by simpa only [Lt] using h))
  | .dct ks ds, h => .dct (Fzs.refl (by simpa only [Lt] using h))
theorem Fzs.refl {st : Store} {n : Nat} : ∀ {ds : List D}, Lts n ds → Fzs st n ds ds
  | [], _ => .nil
  | d :: ds, h => by
    simp only [Lts] at h
    exact .cons (Fz.refl h.1) (Fzs.refl h.2)
end
section
variable {K : PySem.W.Frag} {r r1 : Ad} {H H1 : Hp} {st st1 : Store}
mutual
theorem RD.lt : ∀ {d : D} {v : V}, RD K r H d v → Lt r.r.length d
  | .non, _, _ => by simp only [Lt]
  | .bl _, _, _ => by simp only [Lt]
  | .int _, _, _ => by simp only [Lt]
  | .str _, _, _ => by simp only [Lt]
  | .cst _, _, _ => by simp only [Lt]
  | .tup ds, v, h => by
    simp only [RD] at h
    obtain ⟨a, vs, e, s, q⟩ := h
    simp only [Lt]; exact RDs.lt q
  | .lst ds, v, h => by
    simp only [RD] at h
    obtain ⟨a, vs, e, s, n, q⟩ := h
    simp only [Lt]; exact RDs.lt q
  | .dct ks ds, v, h => by
    simp only [RD] at h
    obtain ⟨a, kvs, e, s, n, k, q⟩ := h
    simp only [Lt]; exact RDs.lt q
  | .ref n, v, h => by
    simp only [RD] at h
    obtain ⟨a, s, e⟩ := h
    simp only [Lt]; exact (List.getElem?_eq_some_iff.mp s).1
theorem RDs.lt : ∀ {ds : List D} {vs : List V}, RDs K r H ds vs → Lts r.r.length ds
  | [], _, _ => by simp only [Lts]
  | d :: ds, vs, h => by
    simp only [RDs] at h
    obtain ⟨v, r', e, a, b⟩ := h
    simp only [Lts]; exact ⟨RD.lt a, RDs.lt b⟩
end
theorem RO.lt {o : Ob} {ho : Option HO} (q : RO K r H o ho) : LtO r.r.length o := by
  cases o with
  | lst ds => obtain ⟨vs, e, t⟩ := q; exact t.lt
  | flst ds => obtain ⟨o, vs, e, t⟩ := q; exact t.lt
  | dct ks ds => obtain ⟨kvs, e, k, t⟩ := q; exact t.lt
theorem Sim.wf (S : Sim K r H st) : Wf st := fun o m => by
  obtain ⟨i, e⟩ := List.getElem?_of_mem m
  have hi : i < r.r.length := by rw [S.len]; exact (List.getElem?_eq_some_iff.mp e).1
  have := (S.ob i r.r[i] o (by simp [hi]) e).lt
  rw [S.len] at this
  exact this
mutual
theorem RD.fz (S : Sim K r H st) (n : Nat) : ∀ {d d' : D}, Fz st n d d' → ∀ {v : V}, RD K r H d v → RD K ⟨r.r.take n, r.x⟩ H d' v
  | _, _, .non, _, h => by simpa only [RD] using h
  | _, _, .bl _, _, h => by simpa only [RD] using h
  | _, _, .int _, _, h => by simpa only [RD] using h
  | _, _, .str _, _, h => by simpa only [RD] using h
  | _, _, .cst _, _, h => by simpa only [RD] using h
  | _, _, .ref k hk, _, h => by
    simp only [RD] at h ⊢
    obtain ⟨a, e, q⟩ := h
    exact ⟨a, by rw [List.getElem?_take_of_lt hk]; exact e, q⟩
  | _, _, .tup t, _, h => by
    simp only [RD] at h ⊢
    obtain ⟨a, vs, e, s, q⟩ := h
    exact ⟨a, vs, e, s, RDs.fz S n t q⟩
  | _, _, .lst t, _, h => by
    simp only [RD] at h ⊢
    obtain ⟨a, vs, e, s, m, q⟩ := h
    exact ⟨a, vs, e, s, ⟨fun z => m.1 (List.mem_of_mem_take z), m.2⟩, RDs.fz S n t q⟩
  | _, _, .dct t, _, h => by
    simp only [RD] at h ⊢
    obtain ⟨a, kvs, e, s, m, k, q⟩ := h
    exact ⟨a, kvs, e, s, ⟨fun z => m.1 (List.mem_of_mem_take z), m.2⟩, k, RDs.fz S n t q⟩
  | _, _, .olst hk e t, _, h => by
    obtain ⟨a, rfl, h1, h2⟩ := S.at_ h e
    obtain ⟨vs, e1, q⟩ := h2
    simp only [RD]
    refine ⟨a, vs, rfl, e1, ⟨fun z => ?_, fun z => (S.xs a z).2 (List.mem_of_getElem? h1)⟩, RDs.fz S n t q⟩
    obtain ⟨j, ej⟩ := List.getElem?_of_mem z
    have hj : j < n := by
      have := (List.getElem?_eq_some_iff.mp ej).1
      simp at this; omega
    replace ej : (r.r.take n)[j]? = some a := ej
    rw [List.getElem?_take_of_lt hj] at ej
    have := ix_inj S.nd ej h1
    omega
  | _, _, .odct hk e t, _, h => by
    obtain ⟨a, rfl, h1, h2⟩ := S.at_ h e
    obtain ⟨kvs, e1, k, q⟩ := h2
    simp only [RD]
    refine ⟨a, kvs, rfl, e1, ⟨fun z => ?_, fun z => (S.xs a z).2 (List.mem_of_getElem? h1)⟩, k, RDs.fz S n t q⟩
    obtain ⟨j, ej⟩ := List.getElem?_of_mem z
    have hj : j < n := by
      have := (List.getElem?_eq_some_iff.mp ej).1
      simp at this; omega
    replace ej : (r.r.take n)[j]? = some a := ej
    rw [List.getElem?_take_of_lt hj] at ej
    have := ix_inj S.nd ej h1
    omega
theorem RDs.fz (S : Sim K r H st) (n : Nat) : ∀ {ds ds' : List D}, Fzs st n ds ds' → ∀ {vs : List V}, RDs K r H ds vs → RDs K ⟨r.r.take n, r.x⟩ H ds' vs
  | _, _, .nil, _, h => by simpa only [RDs] using h
  | _, _, .cons a t, _, h => by
    simp only [RDs] at h ⊢
    obtain ⟨v, r', e, p, q⟩ := h
    exact ⟨v, r', e, RD.fz S n a p, RDs.fz S n t q⟩
end
/-- a store whose objects from n on are thrown away -/
structure Cut (st1 : Store) (n : Nat) (st' : Store) : Prop where
  le : n ≤ st1.length
  len : st'.length = n
  ob : ∀ (i : Nat) (o : Ob), i < n → st1[i]? = some o → ∃ o', st'[i]? = some o' ∧ match o, o' with
    | .lst ds, .lst ds' => Fzs st1 n ds ds'
    | .flst ds, .flst ds' => Fzs st1 n ds ds'
    | .dct ks ds, .dct ks' ds' => ks = ks' ∧ Fzs st1 n ds ds'
    | _, _ => False
theorem Sim.cut (S : Sim K r H st1) {n : Nat} {st' : Store} (c : Cut st1 n st') : Sim K ⟨r.r.take n, r.x⟩ H st' := by
  refine ⟨?_, S.nd.sublist (List.take_sublist _ _), fun a m => ⟨(S.xs a m).1, fun z => (S.xs a m).2 (List.mem_of_mem_take z)⟩, fun i a o' e1 e2 => ?_⟩
  · show (r.r.take n).length = _
    rw [List.length_take, S.len, c.len]; have := c.le; omega
  have hi : i < n := by rw [← c.len]; exact (List.getElem?_eq_some_iff.mp e2).1
  replace e1 : (r.r.take n)[i]? = some a := e1
  rw [List.getElem?_take_of_lt hi] at e1
  obtain ⟨o, e, q⟩ := S.ex e1
  obtain ⟨o2, e3, z⟩ := c.ob i o hi e
  rw [e2] at e3
  cases e3
  cases o <;> cases o' <;> first
    | exact z.elim
    | (obtain ⟨vs, h1, t⟩ := q; exact ⟨vs, h1, RDs.fz S n z t⟩)
    | (obtain ⟨o, vs, h1, t⟩ := q; exact ⟨o, vs, h1, RDs.fz S n z t⟩)
    | (obtain ⟨kvs, h1, k, t⟩ := q; exact ⟨kvs, h1, z.1 ▸ k, RDs.fz S n z.2 t⟩)
theorem Ok.cut {Q : VK} {d d' : D} {st' : Store} (S : Sim K r H st) (P : Ok K r H Q d' st') (c : Cut st1 st.length st') (f : Fz st1 st.length d d') : Ok K r H Q d st1 := fun r1 H1 v S1 x1 hd => by
  have S2 := S1.cut c
  obtain ⟨l, el, hl⟩ := x1.pre
  have et : r1.r.take st.length = r.r := by rw [el, ← S.len, List.take_left]
  refine P _ H1 v S2 ⟨x1.x, ⟨[], by simp [et], by simp⟩, x1.keep, x1.tup⟩ (RD.fz S1 _ f hd)
end
/-- the objects stand as they stood, others are thrown away -/
theorem Cut.same {st g : Store} (w : Wf st) : Cut (st ++ g) st.length st := ⟨by simp, rfl, fun i o hi e => by
  rw [List.getElem?_append_left hi] at e
  refine ⟨o, e, ?_⟩
  have := w o (List.mem_of_getElem? e)
  cases o with
  | lst ds => exact Fzs.refl this
  | flst ds => exact Fzs.refl this
  | dct ks ds => exact ⟨rfl, Fzs.refl this⟩⟩
/-- some were changed, to values that lie within -/
theorem Cut.of {st1 st' : Store} (n : Nat) (e : st'.length = n) (h : st1.take n = st') (w : Wf st') : Cut st1 n st' := by
  subst e
  refine ⟨by rw [← h, List.length_take]; omega, rfl, fun i o hi e => ?_⟩
  have e2 : st'[i]? = some o := by rw [← h, List.getElem?_take_of_lt hi]; exact e
  refine ⟨o, e2, ?_⟩
  have := w o (List.mem_of_getElem? e2)
  cases o with
  | lst ds => exact Fzs.refl this
  | flst ds => exact Fzs.refl this
  | dct ks ds => exact ⟨rfl, Fzs.refl this⟩
section
variable {P : Program} {w : World} {K : PySem.W.Frag} {mg : Str → Option Value} {base : Heap}
/-- THE RULE for a def's worth: F by its body; G what is told of it -/
theorem fn_tell {f : Addr} {fd : FuncData} {ps : List Str} {k n : Nat} {F G : Fn0} {CX : CXT} (h : FnG P w K mg base CX k f fd ps (spF K n F))
    (w' : ∀ ds st d st', Lts st.length ds → Wf st → ds.length = n → G ds st = some (d, st') → ∃ d1 st1, F ds st = some (d1, st1) ∧ Cut st1 st.length st' ∧ Fz st1 st.length d1 d) :
    FnG P w K mg base CX k f fd ps (spF K n G) := fn_imp h fun r H st ds vs d st' Q S hd hl hG P => by
  have lt := hd.lt
  rw [S.len] at lt
  obtain ⟨d1, st1, h1, h2, h3⟩ := w' ds st d st' lt S.wf hl hG
  exact ⟨d1, st1, h1, P.cut S h2 h3⟩
end
end FW

set_option maxHeartbeats 4000000
namespace FW
open PySem L2

/-! ### what kind of a thing -/
/-- a list that may be changed or read freely -/
def lstOf (d : D) (st : Store) : Option (List D) := match d with
  | .lst ds => some ds
  | .ref n => match st[n]? with
    | some (.lst ds) => some ds
    | _ => none
  | _ => none
/-- a list that is read -/
def rdlOf (d : D) (st : Store) : Option (List D) := match d with
  | .lst ds => some ds
  | .ref n => match st[n]? with
    | some (.lst ds) => some ds
    | some (.flst ds) => some ds
    | _ => none
  | _ => none
/-- a dict -/
def dctOf (d : D) (st : Store) : Option (List D × List D) := match d with
  | .dct ks ds => some (ks, ds)
  | .ref n => match st[n]? with
    | some (.dct ks ds) => some (ks, ds)
    | _ => none
  | _ => none
section
variable {K : PySem.W.Frag} {r : Ad} {H : Hp} {st : Store} {d : D} {v : V} {ds : List D}
theorem lstOf_ok (S : Sim K r H st) (h : RD K r H d v) (e : lstOf d st = some ds) : ∃ a vs, v = .ref a ∧ H a = some (.lst vs) ∧ RDs K r H ds vs := by
  cases d with
  | lst xs =>
    cases e
    simp only [RD] at h
    obtain ⟨a, vs, rfl, s, n, q⟩ := h
    exact ⟨a, vs, rfl, s, q⟩
  | ref n =>
    unfold lstOf at e
    cases q : st[n]? with
    | none => simp only [q] at e; cases e
    | some o =>
      obtain ⟨a, rfl, h1, h2⟩ := S.at_ h q
      simp only [q] at e
      cases o with
      | lst xs => cases e; obtain ⟨vs, e1, t⟩ := h2; exact ⟨a, vs, rfl, e1, t⟩
      | _ => cases e
  | _ => cases e
theorem rdlOf_ok (S : Sim K r H st) (h : RD K r H d v) (e : rdlOf d st = some ds) : ∃ a vs, v = .ref a ∧ SqL K H a vs ∧ RDs K r H ds vs := by
  cases d with
  | lst xs =>
    cases e
    simp only [RD] at h
    obtain ⟨a, vs, rfl, s, n, q⟩ := h
    exact ⟨a, vs, rfl, .of s, q⟩
  | ref n =>
    unfold rdlOf at e
    cases q : st[n]? with
    | none => simp only [q] at e; cases e
    | some o =>
      obtain ⟨a, rfl, h1, h2⟩ := S.at_ h q
      simp only [q] at e
      cases o with
      | lst xs => cases e; obtain ⟨vs, e1, t⟩ := h2; exact ⟨a, vs, rfl, .of e1, t⟩
      | flst xs => cases e; obtain ⟨o, vs, e1, t⟩ := h2; exact ⟨a, vs, rfl, .inl (.inr ⟨o, e1⟩), t⟩
      | _ => cases e
  | _ => cases e
theorem tup_ok (h : RD K r H (.tup ds) v) : ∃ a vs, v = .ref a ∧ SqT K H a vs ∧ RDs K r H ds vs := by
  simpa only [RD] using h
theorem dctOf_ok {ks : List D} (S : Sim K r H st) (h : RD K r H d v) (e : dctOf d st = some (ks, ds)) : ∃ a kvs, v = .ref a ∧ H a = some (.dK kvs) ∧ ks = kvs.map (fun kv => kD kv.1) ∧ RDs K r H ds (kvs.map (·.2)) := by
  cases d with
  | dct xs ys =>
    cases e
    simp only [RD] at h
    obtain ⟨a, kvs, rfl, s, n, k, q⟩ := h
    exact ⟨a, kvs, rfl, s, k, q⟩
  | ref n =>
    unfold dctOf at e
    cases q : st[n]? with
    | none => simp only [q] at e; cases e
    | some o =>
      obtain ⟨a, rfl, h1, h2⟩ := S.at_ h q
      simp only [q] at e
      cases o with
      | dct xs ys => cases e; obtain ⟨kvs, e1, k, t⟩ := h2; exact ⟨a, kvs, rfl, e1, k, t⟩
      | _ => cases e
  | _ => cases e
/-- a new list, a new tuple, as a value -/
theorem Ok.lst {Q : VK} {vs : List V} {p : Addr} (P : Ok K r H Q (.lst ds) st) (S : Sim K r H st) (q : RDs K r H ds vs) (hp : H p = none) : Q (.ref p) (upd H p (.lst vs)) := by
  obtain ⟨S2, x2⟩ := S.side (o := .lst vs) hp
  exact P r _ _ S2 x2 (by simp only [RD]; exact ⟨p, vs, rfl, upd_same, S.notin hp, q.mono x2⟩)
theorem Ok.tup {Q : VK} {vs : List V} {p : Addr} (P : Ok K r H Q (.tup ds) st) (S : Sim K r H st) (q : RDs K r H ds vs) (hp : H p = none) : Q (.ref p) (upd H p (.tup vs)) := by
  obtain ⟨S2, x2⟩ := S.side (o := .tup vs) hp
  exact P r _ _ S2 x2 (by simp only [RD]; exact ⟨p, vs, rfl, .of upd_same, q.mono x2⟩)
theorem Ok.int {Q : VK} {i : Int} (P : Ok K r H Q (.int i) st) (S : Sim K r H st) : Q (.int i) H := P.here S (by simp only [RD])
theorem Ok.bl {Q : VK} {i : Bool} (P : Ok K r H Q (.bl i) st) (S : Sim K r H st) : Q (.bl i) H := P.here S (by simp only [RD])
theorem Ok.str {Q : VK} {i : Str} (P : Ok K r H Q (.str i) st) (S : Sim K r H st) : Q (.str i) H := P.here S (by simp only [RD])
theorem Ok.non {Q : VK} (P : Ok K r H Q .non st) (S : Sim K r H st) : Q .non H := P.here S (by simp only [RD])
theorem RD.int_ {i : Int} (h : RD K r H (.int i) v) : v = .int i := by simpa only [RD] using h
theorem RD.str_ {i : Str} (h : RD K r H (.str i) v) : v = .str i := by simpa only [RD] using h
theorem RD.bl_ {i : Bool} (h : RD K r H (.bl i) v) : v = .bl i := by simpa only [RD] using h
theorem RD.non_ (h : RD K r H .non v) : v = .non := by simpa only [RD] using h
theorem RDs.isNil {vs : List V} (h : RDs K r H ds vs) : vs = [] ↔ ds = [] := by
  have := h.length
  cases ds <;> cases vs <;> simp_all
theorem RDs.one {a : D} {vs : List V} (h : RDs K r H [a] vs) : ∃ v, vs = [v] ∧ RD K r H a v := by
  simp only [RDs] at h
  obtain ⟨v, r', rfl, h1, rfl⟩ := h
  exact ⟨v, rfl, h1⟩
theorem RDs.two {a b : D} {vs : List V} (h : RDs K r H [a, b] vs) : ∃ v w, vs = [v, w] ∧ RD K r H a v ∧ RD K r H b w := by
  simp only [RDs] at h
  obtain ⟨v, r', rfl, h1, w, r2, rfl, h2, rfl⟩ := h
  exact ⟨v, w, rfl, h1, h2⟩
theorem RDs.three {a b c : D} {vs : List V} (h : RDs K r H [a, b, c] vs) : ∃ v w u, vs = [v, w, u] ∧ RD K r H a v ∧ RD K r H b w ∧ RD K r H c u := by
  simp only [RDs] at h
  obtain ⟨v, r', rfl, h1, w, r2, rfl, h2, u, r3, rfl, h3, rfl⟩ := h
  exact ⟨v, w, u, rfl, h1, h2, h3⟩
theorem RDs.ints : ∀ {ns : List Int} {vs : List V}, RDs K r H (ns.map D.int) vs → vs = ns.map V.int
  | [], _, h => by simpa only [List.map_nil, RDs] using h
  | n :: ns, vs, h => by
    simp only [List.map_cons, RDs, RD] at h
    obtain ⟨v, r', rfl, rfl, h2⟩ := h
    rw [RDs.ints h2]; rfl
theorem RDs.ofInts : ∀ (ns : List Int), RDs K r H (ns.map D.int) (ns.map V.int)
  | [] => RDs.nil
  | n :: ns => RDs.cons (by simp only [RD]) (RDs.ofInts ns)
theorem RDs.strs : ∀ {ns : List Str} {vs : List V}, RDs K r H (ns.map D.str) vs → vs = ns.map V.str
  | [], _, h => by simpa only [List.map_nil, RDs] using h
  | n :: ns, vs, h => by
    simp only [List.map_cons, RDs, RD] at h
    obtain ⟨v, r', rfl, rfl, h2⟩ := h
    rw [RDs.strs h2]; rfl
theorem RDs.ofStrs : ∀ (ns : List Str), RDs K r H (ns.map D.str) (ns.map V.str)
  | [] => RDs.nil
  | n :: ns => RDs.cons (by simp only [RD]) (RDs.ofStrs ns)
theorem RDs.replicate {d : D} {v : V} (h : RD K r H d v) : ∀ n, RDs K r H (List.replicate n d) (List.replicate n v)
  | 0 => RDs.nil
  | n + 1 => RDs.cons h (RDs.replicate h n)
theorem RDs.rep {vs : List V} (h : RDs K r H ds vs) : ∀ n, RDs K r H (List.replicate n ds).flatten (List.replicate n vs).flatten
  | 0 => RDs.nil
  | n + 1 => by simp only [List.replicate_succ, List.flatten_cons]; exact h.append (RDs.rep h n)
end

/-! ### arithmetic -/
def oAdd : F2 := fun x y st => match x, y with
  | .int i, .int j => some (.int (i + j), st)
  | .str a, .str b => if a.length + b.length ≤ sizeLine then some (.str (a ++ b), st) else none
  | .tup a, .tup b => if a.length + b.length ≤ sizeLine then some (.tup (a ++ b), st) else none
  | x, y => match lstOf x st, lstOf y st with
    | some a, some b => if a.length + b.length ≤ sizeLine then some (.lst (a ++ b), st) else none
    | _, _ => none
def rAddAll (K : PySem.W.Frag) : R2 := fun x y H Q => (rI0 (fun i j => .int (i + j))) x y H Q ∨ (∃ i j, x = .str i ∧ y = .str j ∧ i.length + j.length ≤ sizeLine ∧ Q (.str (i ++ j)) H) ∨ rCatA K x y H Q ∨ rCat x y H Q
theorem op_addAll {X : Cx} : OpR X (binaryOp .Add) (rAddAll X.K) := OpR.or op_add (OpR.or op_add_str (OpR.or op_catA op_cat))
theorem oAdd_ok {K : PySem.W.Frag} : OpS K (rAddAll K) oAdd := by
  intro r H st d c x y z st' Q S hd hc h P
  unfold oAdd at h
  split at h
  · cases h; rw [hd.int_, hc.int_]; exact .inl ⟨_, _, rfl, rfl, P.int S⟩
  · split at h
    · cases h; rw [hd.str_, hc.str_]; exact .inr (.inl ⟨_, _, rfl, rfl, by assumption, P.str S⟩)
    · cases h
  · split at h
    · rename_i hl
      cases h
      have hd' := hd
      have hc' := hc
      obtain ⟨a, vs, rfl, s, q⟩ := tup_ok hd
      obtain ⟨b, ws, rfl, s2, q2⟩ := tup_ok hc
      refine .inr (.inr (.inl ⟨a, b, vs, ws, rfl, rfl, s, s2, by rw [← q.length, ← q2.length]; exact hl, fun e => ?_, fun e1 e2 => ?_, fun e1 e2 p hp => P.tup S (q.append q2) hp⟩))
      · rw [q.isNil] at e
        subst e
        exact P.here S hc'
      · rw [q2.isNil] at e2
        subst e2
        rw [List.append_nil] at P
        exact P.here S hd'
    · cases h
  · cases q1 : lstOf d st with
    | none => simp only [q1] at h; cases h
    | some a =>
      cases q2 : lstOf c st with
      | none => simp only [q1, q2] at h; cases h
      | some b =>
        simp only [q1, q2] at h
        split at h
        · rename_i hl
          cases h
          obtain ⟨a, vs, rfl, s, t⟩ := lstOf_ok S hd q1
          obtain ⟨b, ws, rfl, s2, t2⟩ := lstOf_ok S hc q2
          exact .inr (.inr (.inr ⟨a, b, vs, ws, rfl, rfl, s, s2, by rw [← t.length, ← t2.length]; exact hl, fun p hp => P.lst S (t.append t2) hp⟩))
        · cases h
def oSub : F2 := fun x y st => match x, y with
  | .int i, .int j => some (.int (i - j), st)
  | _, _ => none
theorem oSub_ok {K : PySem.W.Frag} : OpS K (rI0 fun i j => .int (i - j)) oSub := by
  intro r H st d c x y z st' Q S hd hc h P
  unfold oSub at h
  split at h
  · cases h; rw [hd.int_, hc.int_]; exact ⟨_, _, rfl, rfl, P.int S⟩
  · cases h
instance (i j : Int) : Decidable (CMul i j) := by unfold CMul; infer_instance
/-- t * k, a tuple -/
theorem op_repTB {X : Cx} : OpR X (binaryOp .Mult) (fun x y H Q => ∃ l k xs, x = .ref l ∧ y = .int k ∧ SqT X.K H l xs ∧ xs ≠ [] ∧ 2 ≤ k ∧ (xs.length : Int) * k ≤ 1000000 ∧ ∀ p, H p = none → Q (.ref p) (upd H p (.tup (List.replicate k.toNat xs).flatten))) := by
  intro pins s σ H x y v u Q I rx ry h
  obtain ⟨l, k, xs, rfl, rfl, hT, hne, h1, h2, q⟩ := h
  cases rx
  obtain ⟨t, rfl⟩ := ry
  obtain ⟨its, rv, ⟨⟨cls, dd, data, sl⟩, ho, hc, n, hd⟩, hs⟩ := I.tuple hT
  simp only at hc hd
  subst hc hd
  have hle : its.length = xs.length := rv.length.symm
  have hp : 1 ≤ xs.length := by cases xs with | nil => exact absurd rfl hne | cons a b => simp
  have hi : its.toArray.isEmpty = false := by cases its with | nil => simp at hle; omega | cons a b => rfl
  have hsz0 : its.toArray.size = xs.length := by rw [List.size_toArray, hle]
  have hk : k ≤ 1000000 := by
    have : (1 : Int) * k ≤ (xs.length : Int) * k := Int.mul_le_mul_of_nonneg_right (by omega) (by omega)
    omega
  have hm : ((its.toArray.size : Nat) : Int) * k ≤ 1000000 := by rw [hsz0]; exact h2
  have hm2 : k.toNat * xs.length ≤ 1000000 := by
    have e : ((k.toNat * xs.length : Nat) : Int) = (xs.length : Int) * k := by
      rw [Int.natCast_mul, Int.toNat_of_nonneg (by omega), Int.mul_comm]
    omega
  have flen : (List.replicate k.toNat its).flatten.length ≤ sizeLine := by
    rw [PyProof.Rows.lm_len_rep_flat, hle, PySem.sizeLine_eq]
    omega
  refine PySem.wpAny_binaryOp_repeat_ref (T := "tuple") (U := "int") (by decide) ⟨_, ho, rfl⟩ (fun s' => PySem.typeIs_int s' k t) noFill_tuple_mul PySem.F.fills_int_mul PySem.F.slot_int_rmul repeat_tuple PySem.F.slot_int_index.lookup
    (PySem.call_meets PySem.F.slot_int_rmul (PySem.typeIs_int s k t) PySem.F.entry_int_rmul (PySem.F.args_int_rmul_2 _ _) (int_rmul_tuple k t l its.toArray n dd sl)
      ⟨ho, rfl, ⟨_, ho, rfl⟩, PySem.call_meets PySem.F.slot_tuple_mul ⟨_, ho, rfl⟩ PySem.F.entry_tuple_mul (PySem.F.args_tuple_mul_2 _ _) (tuple_mulW l its.toArray n dd sl k t ?_ ?_ ?_ (by omega) ?_ (by rw [size_rep, List.size_toArray]; exact flen)) ⟨ho, ?_⟩⟩)
  · rw [decide_eq_false (by omega), decide_eq_false (by omega)] <;> rfl
  · rw [hi, Bool.false_or]; exact beq_eq_false_iff_ne.mpr (by omega)
  · rw [hi, Bool.or_false]; exact decide_eq_false (by omega)
  · unfold Builtin.Tuple.tupleTooMany
    rw [PySem.sizeLine_eq]
    exact decide_eq_false (by omega)
  rw [size_rep]
  refine ⟨.ref s.heap.objs.size, _, I.laid (t' := s.toks) (o := .tup (List.replicate k.toNat xs).flatten) (fun b ob q => Heap.get?_push_of_some _ q) (Nat.le_refl _) ?_, rfl, q _ (I.hok.fresh (Nat.le_refl _))⟩
  exact ⟨by rw [PyProof.Rows.lm_len_rep_flat, PySem.sizeLine_eq]; omega, _, rv.rep k.toNat, PyProof.Rows.IsTup.new _ _⟩
def oMul : F2 := fun x y st => match x, y with
  | .int i, .int j => if CMul i j then some (.int (i * j), st) else none
  | .tup a, .int k => if a ≠ [] ∧ 2 ≤ k ∧ (a.length : Int) * k ≤ 1000000 then some (.tup (List.replicate k.toNat a).flatten, st) else none
  | x, .int k => match lstOf x st with
    | some a => if -(2 ^ 63) ≤ k ∧ k < 2 ^ 63 ∧ a.length * k.toNat ≤ sizeLine then some (.lst (List.replicate k.toNat a).flatten, st) else none
    | none => none
  | _, _ => none
def rMulAll (K : PySem.W.Frag) : R2 := fun x y H Q => (rI CMul fun i j => .int (i * j)) x y H Q ∨ (∃ l k xs, x = .ref l ∧ y = .int k ∧ SqT K H l xs ∧ xs ≠ [] ∧ 2 ≤ k ∧ (xs.length : Int) * k ≤ 1000000 ∧ ∀ p, H p = none → Q (.ref p) (upd H p (.tup (List.replicate k.toNat xs).flatten))) ∨ rRep x y H Q
theorem op_mulAll {X : Cx} : OpR X (binaryOp .Mult) (rMulAll X.K) := OpR.or op_mul (OpR.or op_repTB op_rep)
theorem oMul_ok {K : PySem.W.Frag} : OpS K (rMulAll K) oMul := by
  intro r H st d c x y z st' Q S hd hc h P
  unfold oMul at h
  split at h
  · split at h
    · cases h; rw [hd.int_, hc.int_]; exact .inl ⟨_, _, rfl, rfl, by assumption, P.int S⟩
    · cases h
  · split at h
    · rename_i hh
      obtain ⟨h1, h2, h3⟩ := hh
      cases h
      rw [hc.int_]
      obtain ⟨a, vs, rfl, s, q⟩ := tup_ok hd
      refine .inr (.inl ⟨a, _, vs, rfl, rfl, s, fun e => h1 (q.isNil.mp e), h2, by rw [← q.length]; exact h3, fun p hp => P.tup S (q.rep _) hp⟩)
    · cases h
  · split at h
    · rename_i q1
      split at h
      · rename_i hh
        obtain ⟨h1, h2, h3⟩ := hh
        cases h
        rw [hc.int_]
        obtain ⟨a, vs, rfl, s, t⟩ := lstOf_ok S hd q1
        exact .inr (.inr ⟨a, _, vs, rfl, rfl, s, h1, h2, by rw [← t.length]; exact h3, fun p hp => P.lst S (t.rep _) hp⟩)
      · cases h
    · cases h
  · cases h
instance (i j : Int) : Decidable (CDiv i j) := by unfold CDiv; infer_instance
instance (i j : Int) : Decidable (CPow i j) := by unfold CPow; infer_instance
def oFdiv : F2 := fun x y st => match x, y with
  | .int i, .int j => if CDiv i j then some (.int (i / j), st) else none
  | _, _ => none
theorem oFdiv_ok {K : PySem.W.Frag} : OpS K (rI CDiv fun i j => .int (i / j)) oFdiv := by
  intro r H st d c x y z st' Q S hd hc h P
  unfold oFdiv at h
  split at h
  · split at h
    · cases h; rw [hd.int_, hc.int_]; exact ⟨_, _, rfl, rfl, by assumption, P.int S⟩
    · cases h
  · cases h
def oMod : F2 := fun x y st => match x, y with
  | .int i, .int j => if 0 < j then some (.int (i % j), st) else none
  | _, _ => none
theorem oMod_ok {K : PySem.W.Frag} : OpS K (rI (fun _ j => 0 < j) fun i j => .int (i % j)) oMod := by
  intro r H st d c x y z st' Q S hd hc h P
  unfold oMod at h
  split at h
  · split at h
    · cases h; rw [hd.int_, hc.int_]; exact ⟨_, _, rfl, rfl, by assumption, P.int S⟩
    · cases h
  · cases h
def oPow : F2 := fun x y st => match x, y with
  | .int i, .int j => if CPow i j then some (.int (i ^ j.toNat), st) else none
  | _, _ => none
theorem oPow_ok {K : PySem.W.Frag} : OpS K (rI CPow fun i j => .int (i ^ j.toNat)) oPow := by
  intro r H st d c x y z st' Q S hd hc h P
  unfold oPow at h
  split at h
  · split at h
    · cases h; rw [hd.int_, hc.int_]; exact ⟨_, _, rfl, rfl, by assumption, P.int S⟩
    · cases h
  · cases h
def oNeg : F1 := fun x st => match x with
  | .int i => some (.int (-i), st)
  | _ => none
theorem oNeg_ok {K : PySem.W.Frag} : UnS K (rU fun i => .int (-i)) oNeg := by
  intro r H st d x z st' Q S hd h P
  unfold oNeg at h
  split at h
  · cases h; rw [hd.int_]; exact ⟨_, rfl, P.int S⟩
  · cases h

/-! ### comparisons of numbers, texts -/
def oCmp (p : Int → Int → Bool) (q : List Nat → List Nat → Bool) : F2 := fun x y st => match x, y with
  | .int i, .int j => some (.bl (p i j), st)
  | .str a, .str b => some (.bl (q a.cps.toList b.cps.toList), st)
  | _, _ => none
theorem oCmp_ok {K : PySem.W.Frag} {p : Int → Int → Bool} {q : List Nat → List Nat → Bool} : OpS K (fun x y H Q => (rI0 fun i j => .bl (p i j)) x y H Q ∨ ∃ i j, x = .str i ∧ y = .str j ∧ Q (.bl (q i.cps.toList j.cps.toList)) H) (oCmp p q) := by
  intro r H st d c x y z st' Q S hd hc h P
  unfold oCmp at h
  split at h
  · cases h; rw [hd.int_, hc.int_]; exact .inl ⟨_, _, rfl, rfl, P.bl S⟩
  · cases h; rw [hd.str_, hc.str_]; exact .inr ⟨_, _, rfl, rfl, P.bl S⟩
  · cases h
abbrev oLt : F2 := oCmp (fun i j => decide (i < j)) (fun a b => decide (a < b))
abbrev oLe : F2 := oCmp (fun i j => decide (i ≤ j)) (fun a b => decide (a ≤ b))
abbrev oGt : F2 := oCmp (fun i j => decide (j < i)) (fun a b => decide (b < a))
abbrev oGe : F2 := oCmp (fun i j => decide (j ≤ i)) (fun a b => decide (b ≤ a))
def isNon : D → Bool
  | .non => true
  | _ => false
def oIsN : F2 := fun x y st => match y with
  | .non => some (.bl (isNon x), st)
  | _ => none
def oNotN : F2 := fun x y st => match y with
  | .non => some (.bl !isNon x, st)
  | _ => none
theorem RD.isN {K : PySem.W.Frag} {r : Ad} {H : Hp} {d : D} {v : V} (h : RD K r H d v) (nc : ∀ c, d ≠ .cst c) : decide (v = .non) = isNon d := by
  cases d with
  | cst c => exact absurd rfl (nc c)
  | non => simp only [RD] at h; subst h; rfl
  | bl _ => simp only [RD] at h; subst h; rfl
  | int _ => simp only [RD] at h; subst h; rfl
  | str _ => simp only [RD] at h; subst h; rfl
  | tup _ => simp only [RD] at h; obtain ⟨_, _, rfl, _⟩ := h; rfl
  | lst _ => simp only [RD] at h; obtain ⟨_, _, rfl, _⟩ := h; rfl
  | dct _ _ => simp only [RD] at h; obtain ⟨_, _, rfl, _⟩ := h; rfl
  | ref _ => simp only [RD] at h; obtain ⟨_, _, rfl⟩ := h; rfl
end FW

set_option maxHeartbeats 4000000
namespace FW
open PySem L2

/-! ### data -/
mutual
inductive PD (st : Store) : D → PyData → Prop
  | non : PD st .non .none
  | bl (b) : PD st (.bl b) (.bool b)
  | int (i) : PD st (.int i) (.int i)
  | str (x) : PD st (.str x) (.str x)
  | tup {ds ps} (h : PDs st ds ps) : PD st (.tup ds) (.tuple ps)
  | lst {ds ps} (h : PDs st ds ps) : PD st (.lst ds) (.list ps)
  | ref {k ds ps} (e : st[k]? = some (.lst ds)) (h : PDs st ds ps) : PD st (.ref k) (.list ps)
  | fref {k ds ps} (e : st[k]? = some (.flst ds)) (h : PDs st ds ps) : PD st (.ref k) (.list ps)
inductive PDs (st : Store) : List D → List PyData → Prop
  | nil : PDs st [] []
  | cons {d p ds ps} (h : PD st d p) (t : PDs st ds ps) : PDs st (d :: ds) (p :: ps)
end
mutual
theorem PD.det {st : Store} : ∀ {d : D} {p q : PyData}, PD st d p → PD st d q → p = q
  | _, _, _, .non, .non => rfl
  | _, _, _, .bl _, .bl _ => rfl
  | _, _, _, .int _, .int _ => rfl
  | _, _, _, .str _, .str _ => rfl
  | _, _, _, .tup h, .tup h' => by rw [PDs.det h h']
  | _, _, _, .lst h, .lst h' => by rw [PDs.det h h']
  | _, _, _, .ref e h, .ref e' h' => by rw [e] at e'; cases e'; rw [PDs.det h h']
  | _, _, _, .fref e h, .fref e' h' => by rw [e] at e'; cases e'; rw [PDs.det h h']
  | _, _, _, .ref e h, .fref e' h' => by rw [e] at e'; cases e'
  | _, _, _, .fref e h, .ref e' h' => by rw [e] at e'; cases e'
theorem PDs.det {st : Store} : ∀ {d : List D} {p q : List PyData}, PDs st d p → PDs st d q → p = q
  | _, _, _, .nil, .nil => rfl
  | _, _, _, .cons h t, .cons h' t' => by rw [PD.det h h', PDs.det t t']
end
section
variable {K : PySem.W.Frag} {r : Ad} {H : Hp} {st : Store}
mutual
theorem PD.dp (S : Sim K r H st) : ∀ {d : D} {p : PyData}, PD st d p → ∀ {v : V}, RD K r H d v → Dp K H v p
  | _, _, .non, _, h => by rw [h.non_]; exact .non
  | _, _, .bl _, _, h => by rw [h.bl_]; exact .bl _
  | _, _, .int _, _, h => by rw [h.int_]; exact .int _
  | _, _, .str _, _, h => by rw [h.str_]; exact .str _
  | _, _, .tup t, _, h => by
    obtain ⟨a, vs, rfl, s, q⟩ := tup_ok h
    exact .tup s (PDs.dp S t q)
  | _, _, .lst t, _, h => by
    simp only [RD] at h
    obtain ⟨a, vs, rfl, s, n, q⟩ := h
    exact .lst (.of s) (PDs.dp S t q)
  | _, _, .ref e t, _, h => by
    obtain ⟨a, rfl, h1, vs, h2, h3⟩ := S.at_ h e
    exact .lst (.of h2) (PDs.dp S t h3)
  | _, _, .fref e t, _, h => by
    obtain ⟨a, rfl, h1, o, vs, h2, h3⟩ := S.at_ h e
    exact .lst (.inl (.inr ⟨o, h2⟩)) (PDs.dp S t h3)
theorem PDs.dp (S : Sim K r H st) : ∀ {ds : List D} {ps : List PyData}, PDs st ds ps → ∀ {vs : List V}, RDs K r H ds vs → DpAll K H vs ps
  | _, _, .nil, _, h => by
    simp only [RDs] at h; subst h; exact .nil
  | _, _, .cons a t, _, h => by
    simp only [RDs] at h
    obtain ⟨v, r', rfl, h1, h2⟩ := h
    exact .cons (PD.dp S a h1) (PDs.dp S t h2)
end
end
open Classical in
/-- by what two values are as data -/
noncomputable def oData (g : PyData → PyData → Bool) : F2 := fun x y st =>
  if h : ∃ z : PyData × PyData, PD st x z.1 ∧ PD st y z.2 ∧ SeqAt.shaped z.1 = true ∧ SeqAt.shaped z.2 = true then some (.bl (g (choose h).1 (choose h).2), st) else none
theorem oData_of {g : PyData → PyData → Bool} {x y : D} {st : Store} {p q : PyData} (hp : PD st x p) (hq : PD st y q) (sp : SeqAt.shaped p = true) (sq : SeqAt.shaped q = true) : oData g x y st = some (.bl (g p q), st) := by
  have h : ∃ z : PyData × PyData, PD st x z.1 ∧ PD st y z.2 ∧ SeqAt.shaped z.1 = true ∧ SeqAt.shaped z.2 = true := ⟨(p, q), hp, hq, sp, sq⟩
  unfold oData
  rw [dif_pos h]
  have s := Classical.choose_spec h
  have e1 := s.1.det hp
  have e2 := s.2.1.det hq
  generalize Classical.choose h = c at e1 e2
  rw [e1, e2]
theorem oData_some {g : PyData → PyData → Bool} {x y z : D} {st st' : Store} (h : oData g x y st = some (z, st')) : ∃ p q, PD st x p ∧ PD st y q ∧ SeqAt.shaped p = true ∧ SeqAt.shaped q = true ∧ z = .bl (g p q) ∧ st' = st := by
  unfold oData at h
  split at h
  · rename_i hh
    cases h
    have s := Classical.choose_spec hh
    exact ⟨_, _, s.1, s.2.1, s.2.2.1, s.2.2.2, rfl, rfl⟩
  · cases h
noncomputable abbrev oEq : F2 := oData PyData.eqv
noncomputable abbrev oNe : F2 := oData fun p q => !PyData.eqv p q
theorem oEq_ok {K : PySem.W.Frag} : OpS K (rEqD K) oEq := by
  intro r H st d c x y z st' Q S hd hc h P
  obtain ⟨p, q, hp, hq, sp, sq, rfl, rfl⟩ := oData_some h
  exact ⟨p, q, hp.dp S hd, hq.dp S hc, sp, sq, P.bl S⟩
theorem oNe_ok {K : PySem.W.Frag} : OpS K (rNeD K) oNe := by
  intro r H st d c x y z st' Q S hd hc h P
  obtain ⟨p, q, hp, hq, sp, sq, rfl, rfl⟩ := oData_some h
  exact ⟨p, q, hp.dp S hd, hq.dp S hc, sp, sq, P.bl S⟩

/-! ### is None -/
def noCst : D → Bool
  | .cst _ => false
  | _ => true
/-- x is None, x is not None -/
def oIs : F2 := fun x y st => if noCst x = true then oIsN x y st else none
def oIsNot : F2 := fun x y st => if noCst x = true then oNotN x y st else none
theorem oIs_ok {K : PySem.W.Frag} : OpS K (fun x y H Q => y = .non ∧ Q (.bl (decide (x = .non))) H) oIs := by
  intro r H st d c x y z st' Q S hd hc h P
  unfold oIs at h
  split at h
  · rename_i nc
    unfold oIsN at h
    split at h
    · cases h
      refine ⟨hc.non_, ?_⟩
      rw [hd.isN (by rintro c rfl; cases nc)]
      exact P.bl S
    · cases h
  · cases h
theorem oIsNot_ok {K : PySem.W.Frag} : OpS K (fun x y H Q => y = .non ∧ Q (.bl (!decide (x = .non))) H) oIsNot := by
  intro r H st d c x y z st' Q S hd hc h P
  unfold oIsNot at h
  split at h
  · rename_i nc
    unfold oNotN at h
    split at h
    · cases h
      refine ⟨hc.non_, ?_⟩
      rw [hd.isN (by rintro c rfl; cases nc)]
      exact P.bl S
    · cases h
  · cases h

/-! ### order -/
theorem op_ltAll {X : Cx} : OpR X (compareOp .Lt) (fun x y H Q => (rI0 fun i j => .bl (decide (i < j))) x y H Q ∨ ∃ i j, x = .str i ∧ y = .str j ∧ Q (.bl (decide (i.cps.toList < j.cps.toList))) H) := OpR.or op_lt op_lt_str
theorem op_gtAll {X : Cx} : OpR X (compareOp .Gt) (fun x y H Q => (rI0 fun i j => .bl (decide (j < i))) x y H Q ∨ ∃ i j, x = .str i ∧ y = .str j ∧ Q (.bl (decide (j.cps.toList < i.cps.toList))) H) := OpR.or op_gt op_gt_str
theorem op_leAll {X : Cx} : OpR X (compareOp .LtE) (fun x y H Q => (rI0 fun i j => .bl (decide (i ≤ j))) x y H Q ∨ ∃ i j, x = .str i ∧ y = .str j ∧ Q (.bl (!decide (j.cps.toList < i.cps.toList))) H) := OpR.or op_le op_le_str
theorem op_geAll {X : Cx} : OpR X (compareOp .GtE) (fun x y H Q => (rI0 fun i j => .bl (decide (j ≤ i))) x y H Q ∨ ∃ i j, x = .str i ∧ y = .str j ∧ Q (.bl (!decide (i.cps.toList < j.cps.toList))) H) := OpR.or op_ge op_ge_str

/-! ### in -/
def flatD : D → Option V
  | .non => some .non
  | .bl b => some (.bl b)
  | .int i => some (.int i)
  | .str x => some (.str x)
  | _ => none
theorem flatD_ok {K : PySem.W.Frag} {r : Ad} {H : Hp} : ∀ {d : D} {v w : V}, flatD d = some w → RD K r H d v → v = w := by
  intro d v w h q
  cases d <;> simp only [flatD] at h <;> first | (cases h; simpa only [RD] using q) | cases h
def flatsD : List D → Option (List V)
  | [] => some []
  | d :: ds => match flatD d, flatsD ds with
    | some v, some vs => some (v :: vs)
    | _, _ => none
theorem flatsD_ok {K : PySem.W.Frag} {r : Ad} {H : Hp} : ∀ {ds : List D} {vs ws : List V}, flatsD ds = some ws → RDs K r H ds vs → vs = ws
  | [], _, _, h, q => by cases h; simpa only [RDs] using q
  | d :: ds, vs, ws, h, q => by
    simp only [RDs] at q
    obtain ⟨v, r', rfl, h1, h2⟩ := q
    unfold flatsD at h
    split at h
    · rename_i e1 e2
      cases h
      rw [flatD_ok e1 h1, flatsD_ok e2 h2]
    · cases h
/-- a list or a tuple -/
def seqOf (d : D) (st : Store) : Option (List D) := match d with
  | .tup ds => some ds
  | d => rdlOf d st
theorem seqOf_ok {K : PySem.W.Frag} {r : Ad} {H : Hp} {st : Store} {d : D} {v : V} {ds : List D} (S : Sim K r H st) (h : RD K r H d v) (e : seqOf d st = some ds) : ∃ a vs, v = .ref a ∧ (SqL K H a vs ∨ SqT K H a vs) ∧ RDs K r H ds vs := by
  unfold seqOf at e
  split at e
  · cases e
    obtain ⟨a, vs, rfl, s, q⟩ := tup_ok h
    exact ⟨a, vs, rfl, .inr s, q⟩
  · obtain ⟨a, vs, rfl, s, q⟩ := rdlOf_ok S h e
    exact ⟨a, vs, rfl, .inl s, q⟩
/-- x in y: a sign or a text in a text; a number, a text .. in a list or a tuple -/
def oIn (neg : Bool) : F2 := fun x y st => match x, y with
  | .str a, .str b => some (.bl (if neg then !(!(Builtin.Str.occurrences b a 0 b.length 1).isEmpty) else !(Builtin.Str.occurrences b a 0 b.length 1).isEmpty), st)
  | x, y => match flatD x, (seqOf y st).bind flatsD with
    | some v, some vs => if flatV v = true ∧ vs.all flatV = true then some (.bl (if neg then !inV v vs else inV v vs), st) else none
    | _, _ => none
def rInAll (K : PySem.W.Frag) (neg : Bool) : R2 := fun x y H Q => (∃ i j, x = .str i ∧ y = .str j ∧ Q (.bl (if neg then !(!(Builtin.Str.occurrences j i 0 j.length 1).isEmpty) else !(Builtin.Str.occurrences j i 0 j.length 1).isEmpty)) H) ∨ rIn K neg x y H Q
theorem op_inAll {X : Cx} : OpR X (compareOp .In) (rInAll X.K false) := OpR.or op_in_str op_in_seq
theorem op_notInAll {X : Cx} : OpR X (compareOp .NotIn) (rInAll X.K true) := OpR.or op_notin_str op_notIn_seq
theorem oIn_ok {K : PySem.W.Frag} {neg : Bool} : OpS K (rInAll K neg) (oIn neg) := by
  intro r H st d c x y z st' Q S hd hc h P
  unfold oIn at h
  split at h
  · cases h
    rw [hd.str_, hc.str_]
    exact .inl ⟨_, _, rfl, rfl, P.bl S⟩
  · split at h
    · rename_i v vs e1 e2
      split at h
      · rename_i hh
        obtain ⟨h1, h2⟩ := hh
        cases h
        cases q : seqOf c st with
        | none => rw [q] at e2; cases e2
        | some ds =>
          rw [q] at e2
          obtain ⟨a, ws, rfl, s, t⟩ := seqOf_ok S hc q
          rw [flatD_ok e1 hd]
          refine .inr ⟨a, ws, rfl, s, h1, ?_, ?_⟩
          · rw [flatsD_ok e2 t]; exact h2
          · rw [flatsD_ok e2 t]; exact P.bl S
      · cases h
    · cases h
/-- x in a dict -/
def keyD : D → Option Key
  | .int i => some (.inl i)
  | .str x => some (.inr x)
  | _ => none
theorem keyD_ok {K : PySem.W.Frag} {r : Ad} {H : Hp} {d : D} {v : V} {k : Key} (h : keyD d = some k) (q : RD K r H d v) : v = kV k ∧ d = kD k := by
  cases d <;> simp only [keyD] at h <;> first | (cases h; simp only [RD] at q; exact ⟨q, rfl⟩) | cases h
theorem kD_inj {a b : Key} (h : kD a = kD b) : a = b := by
  cases a <;> cases b <;> simp only [kD] at h <;> first | (injection h with h; rw [h]) | cases h
open Classical in
/-- a dict's value at a key; a key put -/
noncomputable def dGet : List D → List D → D → Option D
  | k :: ks, d :: ds, x => if k = x then some d else dGet ks ds x
  | _, _, _ => none
open Classical in
noncomputable def dHas (ks : List D) (x : D) : Bool := decide (x ∈ ks)
open Classical in
noncomputable def dPut (ks ds : List D) (x v : D) : List D × List D := if x ∈ ks then (ks, List.zipWith (fun k d => if k = x then v else d) ks ds) else (ks ++ [x], ds ++ [v])
section
variable {K : PySem.W.Frag} {r : Ad} {H : Hp} {st : Store}
theorem dGet_ok {k : Key} : ∀ {kvs : List (Key × V)} {ds : List D}, RDs K r H ds (kvs.map (·.2)) → match dGet (kvs.map fun kv => kD kv.1) ds (kD k) with
    | some d => ∃ v, valV kvs k = some v ∧ RD K r H d v
    | none => valV kvs k = none
  | [], ds, h => by
    simp only [List.map_nil, dGet]
    rfl
  | (j, v) :: kvs, [], h => by simp only [List.map_cons, RDs] at h; cases h
  | (j, v) :: kvs, d :: ds, h => by
    simp only [List.map_cons, RDs] at h
    obtain ⟨v', r', e, h1, h2⟩ := h
    cases e
    have ih := dGet_ok (k := k) (kvs := kvs) h2
    simp only [List.map_cons, dGet]
    by_cases e : j = k
    · subst e
      rw [if_pos rfl]
      exact ⟨v, valV_pos rfl, h1⟩
    · rw [if_neg (fun z => e (kD_inj z)), valV_neg e]
      exact ih
theorem any_key {k : Key} {kvs : List (Key × V)} : (kvs.any fun kv => decide (kv.1 = k)) = true ↔ kD k ∈ kvs.map fun kv => kD kv.1 := by
  rw [List.any_eq_true, List.mem_map]
  constructor
  · rintro ⟨p, h1, h2⟩
    exact ⟨p, h1, by rw [of_decide_eq_true h2]⟩
  · rintro ⟨p, h1, h2⟩
    exact ⟨p, h1, decide_eq_true (kD_inj h2)⟩
theorem zip_put {k : Key} {d : D} {v : V} (hd : RD K r H d v) : ∀ {kvs : List (Key × V)} {ds : List D}, RDs K r H ds (kvs.map (·.2)) →
    (kvs.map fun kv => if kv.1 = k then (kv.1, v) else kv).map (fun kv => kD kv.1) = kvs.map (fun kv => kD kv.1) ∧
    RDs K r H (List.zipWith (fun j c => @ite D (j = kD k) (Classical.propDecidable _) d c) (kvs.map fun kv => kD kv.1) ds) ((kvs.map fun kv => if kv.1 = k then (kv.1, v) else kv).map (·.2))
  | [], ds, h => ⟨rfl, by simp [RDs]⟩
  | (j, u) :: kvs, [], h => by simp only [List.map_cons, RDs] at h; cases h
  | (j, u) :: kvs, c :: ds, h => by
    simp only [List.map_cons, RDs] at h
    obtain ⟨v', r', e, h1, h2⟩ := h
    cases e
    obtain ⟨i1, i2⟩ := zip_put (k := k) hd h2
    by_cases e : j = k
    · subst e
      simp only [List.map_cons, if_true, List.zipWith_cons_cons]
      exact ⟨by rw [i1], RDs.cons hd i2⟩
    · have e2 : ¬ kD j = kD k := fun z => e (kD_inj z)
      simp only [List.map_cons, if_neg e, List.zipWith_cons_cons, if_neg e2]
      exact ⟨by rw [i1], RDs.cons h1 i2⟩
theorem dPut_ok {k : Key} {d : D} {v : V} (hd : RD K r H d v) {kvs : List (Key × V)} {ds : List D} (h : RDs K r H ds (kvs.map (·.2))) :
    (dPut (kvs.map fun kv => kD kv.1) ds (kD k) d).1 = (putK kvs k v).map (fun kv => kD kv.1) ∧ RDs K r H (dPut (kvs.map fun kv => kD kv.1) ds (kD k) d).2 ((putK kvs k v).map (·.2)) := by
  unfold dPut putK
  by_cases m : kD k ∈ kvs.map fun kv => kD kv.1
  · rw [if_pos m, if_pos (any_key.mpr m)]
    obtain ⟨i1, i2⟩ := zip_put (k := k) hd h
    exact ⟨i1.symm, i2⟩
  · rw [if_neg m, if_neg (fun z => m (any_key.mp z))]
    simp only [List.map_append, List.map_cons, List.map_nil]
    exact ⟨trivial, h.append (RDs.cons hd RDs.nil)⟩
end
end FW

set_option maxHeartbeats 4000000
namespace FW
open PySem L2

/-! ### subscripts -/
def oIx : F2 := fun x y st => match x, y with
  | .str z, .int i => if z.length ≤ sizeLine then (match atI z.cps.toList i with
    | some c => some (.str ⟨#[c]⟩, st)
    | none => none) else none
  | x, .int i => match seqOf x st with
    | some ds => (match atI ds i with
      | some d => some (d, st)
      | none => none)
    | none => none
  | _, _ => none
theorem RDs.atI {K : PySem.W.Frag} {r : Ad} {H : Hp} {ds : List D} {vs : List V} {i : Int} {d : D} (h : RDs K r H ds vs) (e : L2.atI ds i = some d) : ∃ v, L2.atI vs i = some v ∧ RD K r H d v := by
  unfold L2.atI at e ⊢
  rw [← h.length]
  cases q : ixN ds.length i with
  | none => rw [q] at e; cases e
  | some j =>
    rw [q] at e
    exact h.get e
theorem oIx_ok {K : PySem.W.Frag} : OpS K (rIx K) oIx := by
  intro r H st d c x y z st' Q S hd hc h P
  unfold oIx at h
  split at h
  · split at h
    · split at h
      · rename_i e
        cases h
        rw [hd.str_, hc.int_]
        exact .inr (.inr ⟨_, _, _, rfl, rfl, by assumption, e, P.str S⟩)
      · cases h
    · cases h
  · split at h
    · rename_i ds e
      split at h
      · rename_i e2
        cases h
        obtain ⟨a, vs, rfl, s, t⟩ := seqOf_ok S hd e
        rw [hc.int_]
        obtain ⟨v, h1, h2⟩ := t.atI e2
        rcases s with s | s
        · exact .inl ⟨a, vs, _, v, rfl, rfl, s, h1, P.here S h2⟩
        · exact .inr (.inl ⟨a, vs, _, v, rfl, rfl, s, h1, P.here S h2⟩)
      · cases h
    · cases h
  · cases h
section
variable {X : Cx} {EW : EWt}
theorem e_sub {a b : Expr} {pos : Pos} {ma mb : M D} (ha : E X EW a ma) (hb : E X EW b mb) (hs : PlainIx b := by intro _ _; rfl) : E X EW (.Subscript a b pos) (x2 oIx ma mb) := by
  refine PE.weak (pe_ix ix_seq ha hb hs) ?_
  rintro σ H Q ⟨r, e, st, out, st', S, hE, h, P⟩
  refine bnd_step S hE h P fun r1 H1 x d st1 S1 x1 hE1 hd h1 P1 => bnd_step S1 hE1 h1 P1 fun r2 H2 y c st2 S2 x2 hE2 hc h2 P2 => ?_
  obtain ⟨z, h3, rfl⟩ := ok0_some h2
  exact oIx_ok r2 H2 st2 d c x y z st' Q S2 (hd.mono x2) hc h3 P2
end
/-- a dict's -/
noncomputable def oDGet : F2 := fun x y st => match dctOf x st with
  | some (ks, ds) => if (keyD y).isSome = true then (match dGet ks ds y with
    | some d => some (d, st)
    | none => none) else none
  | none => none
theorem keyD_some {d : D} (h : (keyD d).isSome = true) : ∃ k, keyD d = some k := by
  cases q : keyD d with
  | none => rw [q] at h; cases h
  | some k => exact ⟨k, rfl⟩
noncomputable def oDIn (neg : Bool) : F2 := fun x y st => match dctOf y st with
  | some (ks, ds) => if (keyD x).isSome = true then some (.bl (if neg then !(dGet ks ds x).isSome else (dGet ks ds x).isSome), st) else none
  | none => none
section
variable {X : Cx} {EW : EWt}
theorem e_dget {j : Nat} {a b : Expr} {pos : Pos} {ma mb : M D} (hr : Room j X.A) (ha : E X EW a ma) (hb : E X EW b mb) (hs : NoSl b := by intro _ _; rfl) : E X EW (.Subscript a b pos) (x2 oDGet ma mb) := by
  refine PE.weak (pe_dget (hu_of hr) ha hb hs) ?_
  rintro σ H Q ⟨r, e, st, out, st', S, hE, h, P⟩
  refine bnd_step S hE h P fun r1 H1 x d st1 S1 x1 hE1 hd h1 P1 => bnd_step S1 hE1 h1 P1 fun r2 H2 y c st2 S2 x2 hE2 hc h2 P2 => ?_
  obtain ⟨z, h3, rfl⟩ := ok0_some h2
  unfold oDGet at h3
  split at h3
  · rename_i ks ds e1
    split at h3
    · rename_i hk
      split at h3
      · rename_i v e2
        cases h3
        obtain ⟨a, kvs, rfl, s, k, t⟩ := dctOf_ok S2 (hd.mono x2) e1
        obtain ⟨kk, ek⟩ := keyD_some hk
        obtain ⟨rfl, rfl⟩ := keyD_ok ek hc
        have g := dGet_ok (k := kk) t
        rw [← k, e2] at g
        obtain ⟨w, g1, g2⟩ := g
        exact ⟨a, w, rfl, by rw [← g1]; exact DGet.k s, P2 r2 H2 w S2 (Ext.refl _ _ _) g2⟩
      · cases h3
    · cases h3
  · cases h3
theorem dIn_core {neg : Bool} {r : Ad} {H : Hp} {st st' : Store} {d c z : D} {x y : V} {Q : VK} (S : Sim X.K r H st) (hd : RD X.K r H d x) (hc : RD X.K r H c y) (h : oDIn neg d c st = some (z, st')) (P : Ok X.K r H Q z st') :
    ∃ a o, y = .ref a ∧ DGet H a x o ∧ Q (.bl (if neg then !o.isSome else o.isSome)) H := by
  unfold oDIn at h
  split at h
  · rename_i ks ds e1
    split at h
    · rename_i hk
      cases h
      obtain ⟨a, kvs, rfl, s, k, t⟩ := dctOf_ok S hc e1
      obtain ⟨kk, ek⟩ := keyD_some hk
      obtain ⟨rfl, rfl⟩ := keyD_ok ek hd
      have g := dGet_ok (k := kk) t
      rw [← k] at g
      refine ⟨a, valV kvs kk, rfl, DGet.k s, ?_⟩
      cases q : dGet ks ds (kD kk) with
      | none =>
        rw [q] at g P
        rw [g]
        exact P.bl S
      | some v =>
        rw [q] at g P
        obtain ⟨w, g1, g2⟩ := g
        rw [g1]
        exact P.bl S
    · cases h
  · cases h
theorem e_din {j : Nat} {a b : Expr} {pos : Pos} {ma mb : M D} (hr : Room j X.A) (ha : E X EW a ma) (hb : E X EW b mb) (h1 : behindInMarks .In b = false := by rfl) : E X EW (.Compare a [.In] [b] pos) (x2 (oDIn false) ma mb) := by
  refine PE.weak (pe_cmp (pc_din (hu_of hr) ha hb) h1) ?_
  rintro σ H Q ⟨r, e, st, out, st', S, hE, h, P⟩
  refine bnd_step S hE h P fun r1 H1 x d st1 S1 x1 hE1 hd h1 P1 => bnd_step S1 hE1 h1 P1 fun r2 H2 y c st2 S2 x2 hE2 hc h2 P2 => ?_
  obtain ⟨z, h3, rfl⟩ := ok0_some h2
  exact dIn_core S2 (hd.mono x2) hc h3 P2
theorem e_dnin {j : Nat} {a b : Expr} {pos : Pos} {ma mb : M D} (hr : Room j X.A) (ha : E X EW a ma) (hb : E X EW b mb) (h1 : behindInMarks .NotIn b = false := by rfl) : E X EW (.Compare a [.NotIn] [b] pos) (x2 (oDIn true) ma mb) := by
  refine PE.weak (pe_cmp (pc_dnotin (hu_of hr) ha hb) h1) ?_
  rintro σ H Q ⟨r, e, st, out, st', S, hE, h, P⟩
  refine bnd_step S hE h P fun r1 H1 x d st1 S1 x1 hE1 hd h1 P1 => bnd_step S1 hE1 h1 P1 fun r2 H2 y c st2 S2 x2 hE2 hc h2 P2 => ?_
  obtain ⟨z, h3, rfl⟩ := ok0_some h2
  exact dIn_core S2 (hd.mono x2) hc h3 P2
theorem bnd_bnd {α β γ : Type} {o : Option (Res α × Store)} {k : α → Store → Option (Res β × Store)} {l : β → Store → Option (Res γ × Store)} : bnd (bnd o k) l = bnd o fun a st => bnd (k a st) l := by
  cases o with
  | none => rfl
  | some p =>
    obtain ⟨o, s⟩ := p
    cases o <;> rfl
/-- a comparison as a test: of its value -/
theorem t_of {a b : Expr} {op : CmpOp} {pos : Pos} {m : M D} {t : TE} (hp : PC X op a b t) (hw : ∀ σ H Q, tE X.K EW m σ H Q → t σ H Q) (h1 : behindInMarks op b = false := by rfl) : T X EW (.Compare a [op] [b] pos) (xTst m) := by
  refine PT.weak (pt_cmp hp h1) ?_
  rintro σ H Q ⟨r, e, st, out, st', S, hE, h, P⟩
  refine hw σ H _ ?_
  refine bnd_step S hE h P fun r1 H1 x d st1 S1 x1 hE1 hd h1 P1 => ?_
  dsimp only at h1
  split at h1
  · cases h1
    exact ⟨_, hd.bl_, P1 r1 H1 _ S1 (Ext.refl _ _ _) rfl⟩
  · cases h1
theorem din_weak {neg : Bool} {ma mb : M D} {σ : L2.St} {H : Hp} {Q : VK} (h : tE X.K EW (x2 (oDIn neg) ma mb) σ H Q) : tE X.K EW ma σ H fun x H1 => tE X.K EW mb σ H1 fun y H2 => ∃ a o, y = .ref a ∧ DGet H2 a x o ∧ Q (.bl (if neg then !o.isSome else o.isSome)) H2 := by
  obtain ⟨r, e, st, out, st', S, hE, h, P⟩ := h
  refine bnd_step S hE h P fun r1 H1 x d st1 S1 x1 hE1 hd h1 P1 => bnd_step S1 hE1 h1 P1 fun r2 H2 y c st2 S2 x2 hE2 hc h2 P2 => ?_
  obtain ⟨z, h3, rfl⟩ := ok0_some h2
  exact dIn_core S2 (hd.mono x2) hc h3 P2
theorem t_din {j : Nat} {a b : Expr} {pos : Pos} {ma mb : M D} (hr : Room j X.A) (ha : E X EW a ma) (hb : E X EW b mb) (h1 : behindInMarks .In b = false := by rfl) : T X EW (.Compare a [.In] [b] pos) (xTst (x2 (oDIn false) ma mb)) :=
  t_of (pc_din (hu_of hr) ha hb) (fun _ _ _ h => din_weak h) h1
theorem t_dnin {j : Nat} {a b : Expr} {pos : Pos} {ma mb : M D} (hr : Room j X.A) (ha : E X EW a ma) (hb : E X EW b mb) (h1 : behindInMarks .NotIn b = false := by rfl) : T X EW (.Compare a [.NotIn] [b] pos) (xTst (x2 (oDIn true) ma mb)) :=
  t_of (pc_dnotin (hu_of hr) ha hb) (fun _ _ _ h => din_weak h) h1

/-! ### slices -/
def pN : M (Option Int) := fun _ st => some (.ok none, st)
def pS (m : M D) : M (Option Int) := xbnd m fun d _ st => match d with
  | .int i => some (.ok (some i), st)
  | _ => none
def Po (X : Cx) (EW : EWt) (e : Option Expr) (m : M (Option Int)) : Prop := PO X e (tX X.K REq EW m)
theorem PO.weak {X : Cx} {e : Option Expr} {t t' : TO} (h : PO X e t) (w : ∀ σ H Q, t' σ H Q → t σ H Q) : PO X e t' := ⟨fun pins s σ H Q I q => h.run pins s σ H Q I (w σ H Q q)⟩
theorem p_none : Po X EW none pN := by
  refine PO.weak po_none ?_
  rintro σ H Q ⟨r, e, st, out, st', S, hE, h, P⟩
  cases h
  exact P r H none S (Ext.refl _ _ _) rfl
theorem p_some {a : Expr} {m : M D} (h : E X EW a m) : Po X EW (some a) (pS m) := by
  refine PO.weak (po_some h) ?_
  rintro σ H Q ⟨r, e, st, out, st', S, hE, h, P⟩
  refine bnd_step S hE h P fun r1 H1 x d st1 S1 x1 hE1 hd h1 P1 => ?_
  dsimp only at h1
  split at h1
  · cases h1
    exact ⟨_, hd.int_, P1 r1 H1 _ S1 (Ext.refl _ _ _) rfl⟩
  · cases h1
def cutD (ds : List D) (lo hi : Option Int) : List D := (ds.drop (HT.sIx ds.length 0 lo)).take (HT.sIx ds.length ds.length hi - HT.sIx ds.length 0 lo)
theorem RDs.cut {K : PySem.W.Frag} {r : Ad} {H : Hp} {ds : List D} {vs : List V} (h : RDs K r H ds vs) (lo hi : Option Int) : RDs K r H (cutD ds lo hi) (cutV vs lo hi) := by
  unfold cutD cutV
  rw [h.length]
  exact (h.drop _).take _
abbrev FSl := D → Option Int → Option Int → Store → Option (D × Store)
def oSl : FSl := fun x lo hi st => match x with
  | .str z => if z.length ≤ sizeLine then some (.str (cutS z lo hi), st) else none
  | .tup ds => some (.tup (cutD ds lo hi), st)
  | x => match rdlOf x st with
    | some ds => some (.lst (cutD ds lo hi), st)
    | none => none
def xSl (f : FSl) (a : M D) (lo hi : M (Option Int)) : M D := xbnd a fun d => xbnd lo fun l => xbnd hi fun u _ st => ok0 (f d l u st)
def rSlAll (K : PySem.W.Frag) : V → Option Int → Option Int → Hp → VK → Prop := fun x lo hi H Q => rSlL K x lo hi H Q ∨ rSlA K x lo hi H Q ∨ rSlS x lo hi H Q
theorem oSl_ok {r : Ad} {H : Hp} {st st' : Store} {d z : D} {x : V} {lo hi : Option Int} {Q : VK} (S : Sim X.K r H st) (hd : RD X.K r H d x) (h : oSl d lo hi st = some (z, st')) (P : Ok X.K r H Q z st') : rSlAll X.K x lo hi H Q := by
  unfold oSl at h
  split at h
  · split at h
    · cases h; rw [hd.str_]; exact .inr (.inr ⟨_, rfl, by assumption, P.str S⟩)
    · cases h
  · rename_i ds
    cases h
    have hd' := hd
    obtain ⟨a, vs, rfl, s, t⟩ := tup_ok hd
    refine .inr (.inl ⟨a, vs, rfl, s, fun hh => ?_, fun _ p hp => P.tup S (t.cut lo hi) hp⟩)
    obtain ⟨h1, h2⟩ := hh
    have e : cutD ds lo hi = ds := by
      unfold cutD
      rw [t.length, h1, h2]
      simp only [List.drop_zero]
      exact List.take_of_length_le (by rw [t.length]; exact Nat.le_refl _)
    rw [e] at P
    exact P.here S hd'
  · split at h
    · rename_i ds e
      cases h
      obtain ⟨a, vs, rfl, s, t⟩ := rdlOf_ok S hd e
      exact .inl ⟨a, vs, rfl, s, fun p hp => P.lst S (t.cut lo hi) hp⟩
    · cases h
theorem e_slice {a : Expr} {lo hi : Option Expr} {p2 pos : Pos} {ma : M D} {ml mh : M (Option Int)} (ha : E X EW a ma) (hl : Po X EW lo ml) (hh : Po X EW hi mh) : E X EW (.Subscript a (.Slice lo hi none p2) pos) (xSl oSl ma ml mh) := by
  refine PE.weak (pe_slice (SlR.or sl_list (SlR.or sl_tupA sl_str)) ha hl hh) ?_
  rintro σ H Q ⟨r, e, st, out, st', S, hE, h, P⟩
  refine bnd_step S hE h P fun r1 H1 x d st1 S1 x1 hE1 hd h1 P1 => bnd_step S1 hE1 h1 P1 fun r2 H2 l l' st2 S2 x2 hE2 hl h2 P2 => bnd_step S2 hE2 h2 P2 fun r3 H3 u u' st3 S3 x3 hE3 hu h3 P3 => ?_
  cases hl
  cases hu
  obtain ⟨z, h4, rfl⟩ := ok0_some h3
  exact oSl_ok S3 ((hd.mono x2).mono x3) h4 P3
/-- xs[lo:hi], a list made here -/
def fSl (a : M D) (lo hi : M (Option Int)) : M Ob := xbnd a fun d => xbnd lo fun l => xbnd hi fun u _ st => match rdlOf d st with
  | some ds => some (.ok (.lst (cutD ds l u)), st)
  | none => none
theorem f_slice {a : Expr} {lo hi : Option Expr} {p2 pos : Pos} {ma : M D} {ml mh : M (Option Int)} (ha : E X EW a ma) (hl : Po X EW lo ml) (hh : Po X EW hi mh) : EF X EW (.Subscript a (.Slice lo hi none p2) pos) (fSl ma ml mh) := by
  refine PE.weak (pe_slice sl_list ha hl hh) ?_
  rintro σ H Q ⟨r, e, st, out, st', S, hE, h, P⟩
  refine bnd_stepO S hE h P fun r1 H1 x d st1 S1 x1 hE1 hd h1 => ?_
  have P1 := P.later S S1 x1
  refine bnd_stepO S1 hE1 h1 P1 fun r2 H2 l l' st2 S2 x2 hE2 hl h2 => ?_
  have P2 := P1.later S1 S2 x2
  refine bnd_stepO S2 hE2 h2 P2 fun r3 H3 u u' st3 S3 x3 hE3 hu h3 => ?_
  cases hl
  cases hu
  dsimp only at h3
  split at h3
  · rename_i ds e
    cases h3
    obtain ⟨a, vs, rfl, s, t⟩ := rdlOf_ok S3 ((hd.mono x2).mono x3) e
    exact ⟨a, vs, rfl, s, fun p hp => P2.lay S2 S3 x3 hp ⟨_, rfl, t.cut _ _⟩⟩
  · cases h3
end
end FW

set_option maxHeartbeats 4000000
namespace FW
open PySem L2

/-! ### objects that are changed -/
def mutL (d : D) (st : Store) : Option (Nat × List D) := match d with
  | .ref n => match st[n]? with
    | some (.lst ds) => some (n, ds)
    | _ => none
  | _ => none
def mutD (d : D) (st : Store) : Option (Nat × List D × List D) := match d with
  | .ref n => match st[n]? with
    | some (.dct ks ds) => some (n, ks, ds)
    | _ => none
  | _ => none
section
variable {K : PySem.W.Frag} {r : Ad} {H : Hp} {st : Store} {d : D} {v : V} {ds : List D} {n : Nat}
theorem mutL_ok (S : Sim K r H st) (h : RD K r H d v) (e : mutL d st = some (n, ds)) : ∃ a vs, v = .ref a ∧ r.r[n]? = some a ∧ H a = some (.lst vs) ∧ RDs K r H ds vs := by
  cases d with
  | ref m =>
    unfold mutL at e
    cases q : st[m]? with
    | none => simp only [q] at e; cases e
    | some o =>
      obtain ⟨a, rfl, h1, h2⟩ := S.at_ h q
      simp only [q] at e
      cases o with
      | lst xs => cases e; obtain ⟨vs, e1, t⟩ := h2; exact ⟨a, vs, rfl, h1, e1, t⟩
      | _ => cases e
  | _ => cases e
theorem mutD_ok {ks : List D} (S : Sim K r H st) (h : RD K r H d v) (e : mutD d st = some (n, ks, ds)) : ∃ a kvs, v = .ref a ∧ r.r[n]? = some a ∧ H a = some (.dK kvs) ∧ ks = kvs.map (fun kv => kD kv.1) ∧ RDs K r H ds (kvs.map (·.2)) := by
  cases d with
  | ref m =>
    unfold mutD at e
    cases q : st[m]? with
    | none => simp only [q] at e; cases e
    | some o =>
      obtain ⟨a, rfl, h1, h2⟩ := S.at_ h q
      simp only [q] at e
      cases o with
      | dct xs ys => cases e; obtain ⟨kvs, e1, k, t⟩ := h2; exact ⟨a, kvs, rfl, h1, e1, k, t⟩
      | _ => cases e
  | _ => cases e
theorem Ok.putL {Q : VK} {z : D} {w : V} {ds' : List D} {vs' : List V} {a : Addr} (P : Ok K r H Q z (st.set n (.lst ds'))) (S : Sim K r H st) (hn : r.r[n]? = some a) (q : RDs K r H ds' vs') (hz : RD K r H z w) : Q w (upd H a (.lst vs')) := by
  obtain ⟨S2, x2⟩ := S.put (ob := .lst ds') (o := .lst vs') hn ⟨vs', rfl, q⟩
  exact P r _ _ S2 x2 (hz.mono x2)
theorem Ok.putD {Q : VK} {z : D} {w : V} {ks ds' : List D} {kvs : List (Key × V)} {a : Addr} (P : Ok K r H Q z (st.set n (.dct ks ds'))) (S : Sim K r H st) (hn : r.r[n]? = some a) (hk : ks = kvs.map (fun kv => kD kv.1)) (q : RDs K r H ds' (kvs.map (·.2))) (hz : RD K r H z w) : Q w (upd H a (.dK kvs)) := by
  obtain ⟨S2, x2⟩ := S.put (ob := .dct ks ds') (o := .dK kvs) hn ⟨kvs, rfl, hk, q⟩
  exact P r _ _ S2 x2 (hz.mono x2)
theorem RD.non0 : RD K r H .non .non := by simp only [RD]
theorem RDs.nil_ {vs : List V} (h : RDs K r H [] vs) : vs = [] := by simpa only [RDs] using h
theorem RDs.dropLast {vs : List V} (h : RDs K r H ds vs) : RDs K r H ds.dropLast vs.dropLast := by
  rw [List.dropLast_eq_take, List.dropLast_eq_take, h.length]
  exact h.take _
theorem RDs.erase {vs : List V} (h : RDs K r H ds vs) (i : Nat) : RDs K r H (ds.eraseIdx i) (vs.eraseIdx i) := by
  rw [List.eraseIdx_eq_take_drop_succ, List.eraseIdx_eq_take_drop_succ]
  exact (h.take _).append (h.drop _)
theorem RDs.rev : ∀ {ds : List D} {vs : List V}, RDs K r H ds vs → RDs K r H ds.reverse vs.reverse
  | [], vs, h => by rw [h.nil_]; exact RDs.nil
  | d :: ds, vs, h => by
    simp only [RDs] at h
    obtain ⟨v, r', rfl, h1, h2⟩ := h
    rw [List.reverse_cons, List.reverse_cons]
    exact (RDs.rev h2).append (RDs.cons h1 RDs.nil)
end

/-! ### methods -/
inductive Ty where
  | lst | dct | txt
def Ty.nm : Ty → String
  | .lst => "list"
  | .dct => "dict"
  | .txt => "str"
def tyD (T : Ty) (d : D) (st : Store) : Bool := match T with
  | .txt => match d with
    | .str _ => true
    | _ => false
  | .lst => (rdlOf d st).isSome
  | .dct => (dctOf d st).isSome
theorem tyD_ok {K : PySem.W.Frag} {r : Ad} {H : Hp} {st : Store} {d : D} {v : V} {T : Ty} (S : Sim K r H st) (h : RD K r H d v) (e : tyD T d st = true) : tyV K T.nm v H := by
  cases T with
  | txt =>
    cases d with
    | str z => rw [h.str_]; rfl
    | _ => cases e
  | lst =>
    cases q : rdlOf d st with
    | none => unfold tyD at e; rw [q] at e; cases e
    | some ds =>
      obtain ⟨a, vs, rfl, s, _⟩ := rdlOf_ok S h q
      exact .inl ⟨rfl, vs, s⟩
  | dct =>
    cases q : dctOf d st with
    | none => unfold tyD at e; rw [q] at e; cases e
    | some p =>
      obtain ⟨ks, ds⟩ := p
      obtain ⟨a, kvs, rfl, s, _⟩ := dctOf_ok S h q
      exact .inr (.inr (.inl ⟨rfl, .inl ⟨kvs, s⟩⟩))
abbrev FM := D → List D → Store → Option (D × Store)
def xMeth (T : Ty) (f : FM) (o : M D) (as : M (List D)) : M D := xbnd o fun d e st => if tyD T d st = true then bnd (as e st) fun ds st1 => ok0 (f d ds st1) else none
def MethS (K : PySem.W.Frag) (rr : V → List V → Hp → VK → Prop) (f : FM) : Prop := ∀ r H st d ds x vs z st' Q,
  Sim K r H st → RD K r H d x → RDs K r H ds vs → f d ds st = some (z, st') → Ok K r H Q z st' → rr x vs H Q
section
variable {X : Cx} {EW : EWt}
theorem e_meth {T : Ty} {name : Str} {id : String} {rr : V → List V → Hp → VK → Prop} {f : FM} {o a : Expr} {es : List Expr} {apos cpos : Pos} {mo : M D} {ma : M (List D)} (hm : MtR X id rr) (hf : MethS X.K rr f)
    (pa : PlainAttrs T.nm) (slot : Slot T.nm name id) (hty : typeOf (.builtin id) = pure (.type "method_descriptor")) (ho : E X EW o mo) (ha : As X EW (a :: es) ma)
    (hbase : attributeBase o name X.env (eval o X.env) = eval o X.env := by rfl)
    (hfew : ((backTo cpos (starEach (a :: es) X.env)).all (fun x => !x.1) && (backToKw cpos (keywordEach [] X.env)).all (fun x => x.1.isSome)
      && decide ((a :: es).length + ([] : List Keyword).length + (if ([] : List Keyword).isEmpty then 0 else 1) < 30)) = true := by rfl)
    (hline : (apos.endLine == cpos.line) = true := by rfl) (hs : starEach (a :: es) X.env = (false, eval a X.env) :: starEach es X.env := by rfl) (hplain : (backTo cpos (starEach es X.env)).any (·.1) = false := by rfl) :
    E X EW (.Call (.Attribute o name apos) (a :: es) [] cpos) (xMeth T f mo ma) := by
  refine PE.weak (pe_bm pa slot hty hm ho ha hbase hfew hline hs hplain) ?_
  rintro σ H Q ⟨r, e, st, out, st', S, hE, h, P⟩
  refine bnd_step S hE h P fun r1 H1 x d st1 S1 x1 hE1 hd h1 P1 => ?_
  dsimp only at h1
  split at h1
  · rename_i ht
    refine ⟨tyD_ok S1 hd ht, bnd_step S1 hE1 h1 P1 fun r2 H2 vs ds st2 S2 x2 hE2 hc h2 P2 => ?_⟩
    obtain ⟨z, h3, rfl⟩ := ok0_some h2
    exact hf r2 H2 st2 d ds x vs z st' Q S2 (hd.mono x2) hc h3 P2
  · cases h1
theorem e_meth0 {T : Ty} {name : Str} {id : String} {rr : V → List V → Hp → VK → Prop} {f : FM} {o : Expr} {apos cpos : Pos} {mo : M D} (hm : MtR X id rr) (hf : MethS X.K rr f)
    (pa : PlainAttrs T.nm) (slot : Slot T.nm name id) (hty : typeOf (.builtin id) = pure (.type "method_descriptor")) (ho : E X EW o mo)
    (hbase : attributeBase o name X.env (eval o X.env) = eval o X.env := by rfl) (hline : (apos.endLine == cpos.line) = true := by rfl) :
    E X EW (.Call (.Attribute o name apos) [] [] cpos) (xMeth T f mo aN) := by
  refine PE.weak (pe_bm0 pa slot hty hm ho hbase hline) ?_
  rintro σ H Q ⟨r, e, st, out, st', S, hE, h, P⟩
  refine bnd_step S hE h P fun r1 H1 x d st1 S1 x1 hE1 hd h1 P1 => ?_
  dsimp only at h1
  split at h1
  · rename_i ht
    refine ⟨tyD_ok S1 hd ht, ?_⟩
    obtain ⟨z, h3, rfl⟩ := ok0_some (show ok0 (f d [] st1) = _ from h1)
    exact hf r1 H1 st1 d [] x [] z st' Q S1 hd RDs.nil h3 P1
  · cases h1
end
def mAppend : FM := fun d as st => match mutL d st, as with
  | some (n, ds), [y] => if ds.length < sizeLine then some (.non, st.set n (.lst (ds ++ [y]))) else none
  | _, _ => none
theorem mAppend_ok {K : PySem.W.Frag} : MethS K rAppend mAppend := by
  intro r H st d ds x vs z st' Q S hd hs h P
  unfold mAppend at h
  split at h
  · rename_i n xs y e
    split at h
    · rename_i hl
      cases h
      obtain ⟨a, ws, rfl, hn, s, t⟩ := mutL_ok S hd e
      obtain ⟨w, rfl, hw⟩ := hs.one
      exact ⟨a, ws, w, rfl, rfl, s, by rw [← t.length]; exact hl, P.putL S hn (t.append (RDs.cons hw RDs.nil)) RD.non0⟩
    · cases h
  · cases h
def rExtendT (K : PySem.W.Frag) : V → List V → Hp → VK → Prop := fun x vs H Q => ∃ l b xs zs, x = .ref l ∧ vs = [.ref b] ∧ H l = some (.lst xs) ∧ SqT K H b zs ∧ xs.length + zs.length ≤ sizeLine ∧ Q .non (upd H l (.lst (xs ++ zs)))
open PySem.Spec PyProof.Rows PyProof in
theorem meets_extT (l : Addr) (items : Array Value) (n : Nat) (b : Addr) (items2 : Array Value) (hs0 : ¬(!items.isEmpty && Builtin.List.listTooLong (items.size + items2.size)) = true) (hs1 : items.size ≤ sizeLine) (hs2 : items.size + items2.size ≤ sizeLine + 1) :
    Meets (Builtin.«list.extend» ⟨[.ref l, .ref b], []⟩) (fun _ R s => s.heap.get? l = some { cls := .type "list", dict := none, data := .seq items n, slots := #[] } ∧ IsTup s.heap b items2 ∧ R (.ok (.ret Value.none)) { s with heap := s.heap.update l (Obj.mapSeq fun x => x ++ items2), toks := s.toks }) :=
  .of_wp fun prog w A R s h => by
    obtain ⟨hp, g, d, tk, os⟩ := s
    obtain ⟨hl, ⟨o, hb, hc, n2, hd⟩, h⟩ := h
    obtain ⟨oc, od, oda, os2⟩ := o
    dsimp only at hc hd
    subst hc
    subst hd
    have f1 := AutoSeq1.idx_int; have f2 := AutoSeq1.sub_tuple_tuple; have f3 := AutoSeq1.sub_list_list; have f4 := AutoSeq1.sub_tuple_list; have f5 := AutoSeq1.sub_list_tuple
    have hz' : (items ++ items2).size ≤ sizeLine + 1 := by rw [Array.size_append]; exact hs2
    wp_walk using (wpAny_updateSeq hl rfl (hz := hs1) (_hz' := hz')), AutoSeq1.wpAny_loadPart' hl, AutoSeq1.wpAny_loadPart' hb
    exact ⟨_, rfl, h⟩
theorem mt_extendT {X : Cx} : MtR X "list.extend" (rExtendT X.K) := by
  intro pins s σ H x vs v us Q I rx rv h
  obtain ⟨l, b, xs, zs, rfl, rfl, hH, hB, hz, q⟩ := h
  cases rx
  obtain ⟨u, rfl, ru⟩ := rv.one
  cases ru
  obtain ⟨z, its, n, r, hl, e⟩ := I.lstM hH
  obtain ⟨its2, r2, e2, z2⟩ := I.tuple hB
  have hl2 := r2.length
  have hsz : its.toArray.size + its2.toArray.size ≤ sizeLine := by rw [List.size_toArray, List.size_toArray]; omega
  have hlong : ¬ (!its.toArray.isEmpty && Builtin.List.listTooLong (its.toArray.size + its2.toArray.size)) = true := by
    rw [notLongL hsz, Bool.and_false]
    exact Bool.false_ne_true
  refine PySem.call_meets F.slot_list_extend ⟨_, e, rfl⟩ F.entry_list_extend (F.args_list_extend_2 _ _)
    (meets_extT l its.toArray n b its2.toArray hlong (by rw [List.size_toArray]; omega) (by omega)) ⟨e, e2, ?_⟩
  refine ⟨.non, _, I.lset (its' := its ++ its2) hH e (by simp) (r.append r2) ?_, rfl, q⟩
  rw [List.length_append]
  omega
theorem mt_extendAll {X : Cx} : MtR X "list.extend" (fun x vs H Q => rExtend x vs H Q ∨ rExtendT X.K x vs H Q) := MtR.or mt_extend mt_extendT
theorem mt_popAll {X : Cx} : MtR X "list.pop" (fun x vs H Q => rPop x vs H Q ∨ rPopAt x vs H Q) := MtR.or mt_pop mt_popAt
def mExtend : FM := fun d as st => match mutL d st, as with
  | some (n, ds), [.tup ys] => if ds.length + ys.length ≤ sizeLine then some (.non, st.set n (.lst (ds ++ ys))) else none
  | some (n, ds), [y] => match lstOf y st with
    | some ys => if ds.length + ys.length ≤ sizeLine then some (.non, st.set n (.lst (ds ++ ys))) else none
    | none => none
  | _, _ => none
def rExtendAll (K : PySem.W.Frag) : V → List V → Hp → VK → Prop := fun x vs H Q => rExtend x vs H Q ∨ rExtendT K x vs H Q
theorem mExtend_ok {K : PySem.W.Frag} : MethS K (rExtendAll K) mExtend := by
  intro r H st d ds x vs z st' Q S hd hs h P
  unfold mExtend at h
  split at h
  · rename_i n xs ys e
    split at h
    · rename_i hl
      cases h
      obtain ⟨a, ws, rfl, hn, s, t⟩ := mutL_ok S hd e
      obtain ⟨w, rfl, hw⟩ := hs.one
      obtain ⟨b, us, rfl, s2, t2⟩ := tup_ok hw
      exact .inr ⟨a, b, ws, us, rfl, rfl, s, s2, by rw [← t.length, ← t2.length]; exact hl, P.putL S hn (t.append t2) RD.non0⟩
    · cases h
  · rename_i n xs y _ e
    split at h
    · rename_i ys e2
      split at h
      · rename_i hl
        cases h
        obtain ⟨a, ws, rfl, hn, s, t⟩ := mutL_ok S hd e
        obtain ⟨w, rfl, hw⟩ := hs.one
        obtain ⟨b, us, rfl, s2, t2⟩ := lstOf_ok S hw e2
        exact .inl ⟨a, b, ws, us, rfl, rfl, s, s2, by rw [← t.length, ← t2.length]; exact hl, P.putL S hn (t.append t2) RD.non0⟩
      · cases h
    · cases h
  · cases h
def mPop : FM := fun d as st => match mutL d st, as with
  | some (n, ds), [] => match ds[ds.length - 1]? with
    | some y => some (y, st.set n (.lst ds.dropLast))
    | none => none
  | some (n, ds), [.int i] => if -(2 ^ 63) ≤ i ∧ i < 2 ^ 63 then (match ixN ds.length i with
    | some k => (match ds[k]? with
      | some y => some (y, st.set n (.lst (ds.eraseIdx k)))
      | none => none)
    | none => none) else none
  | _, _ => none
def rPopAll : V → List V → Hp → VK → Prop := fun x vs H Q => rPop x vs H Q ∨ rPopAt x vs H Q
theorem mPop_ok {K : PySem.W.Frag} : MethS K rPopAll mPop := by
  intro r H st d ds x vs z st' Q S hd hs h P
  unfold mPop at h
  split at h
  · rename_i n xs e
    split at h
    · rename_i y e2
      cases h
      obtain ⟨a, ws, rfl, hn, s, t⟩ := mutL_ok S hd e
      cases hs.nil_
      obtain ⟨w, e3, hw⟩ := t.get e2
      exact .inl ⟨a, ws, w, rfl, rfl, s, by rw [← t.length]; exact e3, P.putL S hn t.dropLast hw⟩
    · cases h
  · rename_i n xs i e
    split at h
    · rename_i hi
      split at h
      · rename_i k e2
        split at h
        · rename_i y e3
          cases h
          obtain ⟨a, ws, rfl, hn, s, t⟩ := mutL_ok S hd e
          obtain ⟨w, rfl, hw⟩ := hs.one
          obtain ⟨u, e4, hu⟩ := t.get e3
          obtain ⟨g, _⟩ := ixN_seq e2
          exact .inr ⟨a, ws, i, k, u, rfl, by rw [hw.int_], s, hi.1, hi.2, by rw [← t.length]; exact g, e4, P.putL S hn (t.erase k) hu⟩
        · cases h
      · cases h
    · cases h
  · cases h
def rInsert : V → List V → Hp → VK → Prop := fun x vs H Q => ∃ (l : Addr) (xs : List V) (i : Int) (y : V), x = .ref l ∧ vs = [.int i, y] ∧ H l = some (.lst xs) ∧ xs.length < sizeLine ∧ 0 ≤ i ∧ i < 2 ^ 63 ∧
    Q .non (upd H l (.lst (xs.take i.toNat ++ [y] ++ xs.drop i.toNat)))
def mInsert : FM := fun d as st => match mutL d st, as with
  | some (n, ds), [.int i, y] => if ds.length < sizeLine ∧ 0 ≤ i ∧ i < 2 ^ 63 then some (.non, st.set n (.lst (ds.take i.toNat ++ [y] ++ ds.drop i.toNat))) else none
  | _, _ => none
theorem mInsert_ok {K : PySem.W.Frag} : MethS K rInsert mInsert := by
  intro r H st d ds x vs z st' Q S hd hs h P
  unfold mInsert at h
  split at h
  · rename_i n xs i y e
    split at h
    · rename_i hl
      cases h
      obtain ⟨a, ws, rfl, hn, s, t⟩ := mutL_ok S hd e
      obtain ⟨w, u, rfl, hw, hu⟩ := hs.two
      exact ⟨a, ws, i, u, rfl, by rw [hw.int_], s, by rw [← t.length]; exact hl.1, hl.2.1, hl.2.2, P.putL S hn (((t.take _).append (RDs.cons hu RDs.nil)).append (t.drop _)) RD.non0⟩
    · cases h
  · cases h
def mReverse : FM := fun d as st => match mutL d st, as with
  | some (n, ds), [] => some (.non, st.set n (.lst ds.reverse))
  | _, _ => none
theorem mReverse_ok {K : PySem.W.Frag} : MethS K rReverse mReverse := by
  intro r H st d ds x vs z st' Q S hd hs h P
  unfold mReverse at h
  split at h
  · rename_i n xs e
    cases h
    obtain ⟨a, ws, rfl, hn, s, t⟩ := mutL_ok S hd e
    cases hs.nil_
    exact ⟨a, ws, rfl, rfl, s, P.putL S hn t.rev RD.non0⟩
  · cases h
/-- ints alone -/
def intsD : List D → Option (List Int)
  | [] => some []
  | .int i :: ds => (intsD ds).map (i :: ·)
  | _ => none
theorem intsD_eq : ∀ {ds : List D} {ns : List Int}, intsD ds = some ns → ds = ns.map D.int
  | [], ns, h => by cases h; rfl
  | d :: ds, ns, h => by
    cases d with
    | int i =>
      unfold intsD at h
      cases q : intsD ds with
      | none => rw [q] at h; cases h
      | some ms => rw [q] at h; cases h; rw [intsD_eq q]; rfl
    | _ => cases h
theorem intsD_map (ns : List Int) : intsD (ns.map D.int) = some ns := by
  induction ns with
  | nil => rfl
  | cons n ns ih => simp only [List.map_cons, intsD, ih, Option.map_some]
/-- ints, from the smallest -/
def srtI (ns : List Int) : List Int := ns.mergeSort (fun a b => decide (a ≤ b))
theorem srtI_perm (ns : List Int) : (srtI ns).Perm ns := List.mergeSort_perm _ _
theorem srtI_sorted (ns : List Int) : (srtI ns).Pairwise (· ≤ ·) := by
  have h := List.pairwise_mergeSort (le := fun (a b : Int) => decide (a ≤ b)) (fun a b c h1 h2 => by simp only [decide_eq_true_eq] at *; omega) (fun a b => by simp only [Bool.or_eq_true, decide_eq_true_eq]; omega) ns
  exact h.imp fun h => by simpa using h
theorem srtI_only {ns ms : List Int} (h1 : ms.Perm ns) (h2 : ms.Pairwise (· ≤ ·)) : ms = srtI ns :=
  List.Perm.eq_of_pairwise (fun a b _ _ h3 h4 => Int.le_antisymm h3 h4) h2 (srtI_sorted ns) (h1.trans (srtI_perm ns).symm)
def mSort : FM := fun d as st => match mutL d st, as with
  | some (n, ds), [] => match intsD ds with
    | some ns => some (.non, st.set n (.lst ((srtI ns).map D.int)))
    | none => none
  | _, _ => none
theorem mSort_ok {K : PySem.W.Frag} : MethS K rSortI mSort := by
  intro r H st d ds x vs z st' Q S hd hs h P
  unfold mSort at h
  split at h
  · rename_i n xs e
    split at h
    · rename_i ns e2
      cases h
      obtain ⟨a, ws, rfl, hn, s, t⟩ := mutL_ok S hd e
      cases hs.nil_
      rw [intsD_eq e2] at t
      rw [t.ints] at s
      refine ⟨a, ns, rfl, rfl, s, fun ns' h1 h2 => ?_⟩
      rw [srtI_only h1 h2]
      exact P.putL S hn (RDs.ofInts _) RD.non0
    · cases h
  · cases h
end FW

set_option maxHeartbeats 4000000
namespace FW
open PySem L2

/-! ### calls -/
section
variable {K : PySem.W.Frag}
def fLen : Fn0 := fun as st => match as with
  | [.str z] => if z.length ≤ sizeLine then some (.int z.length, st) else none
  | [d] => match seqOf d st with
    | some ds => some (.int ds.length, st)
    | none => match dctOf d st with
      | some p => some (.int p.1.length, st)
      | none => none
  | _ => none
def rLenAll (K : PySem.W.Frag) : List V → Hp → VK → Prop := fun xs H Q => (∃ x n, xs = [x] ∧ LenV K x H n ∧ Q (.int n) H) ∨ ∃ a kvs, xs = [V.ref a] ∧ H a = some (.dK kvs) ∧ Q (.int kvs.length) H
theorem cr_lenAll {X : Cx} : CallR X (.builtin "len") (rLenAll X.K) := CallR.or call_len call_lenD
theorem fLen_ok : CallS K (rLenAll K) fLen := by
  intro r H st ds vs z st' Q S hs h P
  unfold fLen at h
  split at h
  · split at h
    · cases h
      obtain ⟨v, rfl, hv⟩ := hs.one
      exact .inl ⟨_, _, rfl, by rw [hv.str_]; exact ⟨by assumption, rfl⟩, P.int S⟩
    · cases h
  · rename_i d _
    obtain ⟨v, rfl, hv⟩ := hs.one
    split at h
    · rename_i xs e
      cases h
      obtain ⟨a, ws, rfl, s, t⟩ := seqOf_ok S hv e
      refine .inl ⟨_, ws.length, rfl, ?_, by rw [← t.length]; exact P.int S⟩
      rcases s with s | s
      · exact .inl ⟨ws, s, rfl⟩
      · exact .inr ⟨ws, s, rfl⟩
    · split at h
      · rename_i p e
        obtain ⟨ks, xs⟩ := p
        cases h
        obtain ⟨a, kvs, rfl, s, k, t⟩ := dctOf_ok S hv e
        refine .inr ⟨a, kvs, rfl, s, ?_⟩
        have e2 : ks.length = kvs.length := by rw [k, List.length_map]
        rw [← e2]
        exact P.int S
      · cases h
  · cases h
def rAbs : List V → Hp → VK → Prop := fun xs H Q => ∃ i, xs = [.int i] ∧ Q (.int (if i < 0 then -i else i)) H
def fAbs : Fn0 := fun as st => match as with
  | [.int i] => some (.int (if i < 0 then -i else i), st)
  | _ => none
theorem fAbs_ok : CallS K rAbs fAbs := by
  intro r H st ds vs z st' Q S hs h P
  unfold fAbs at h
  split at h
  · cases h
    obtain ⟨v, rfl, hv⟩ := hs.one
    exact ⟨_, by rw [hv.int_], P.int S⟩
  · cases h
def rInt : List V → Hp → VK → Prop := fun xs H Q => (∃ i, xs = [.int i] ∧ Q (.int i) H) ∨ ∃ k, xs = [.bl k] ∧ Q (.int (if k then 1 else 0)) H
def fInt : Fn0 := fun as st => match as with
  | [.int i] => some (.int i, st)
  | [.bl b] => some (.int (if b then 1 else 0), st)
  | _ => none
theorem fInt_ok : CallS K rInt fInt := by
  intro r H st ds vs z st' Q S hs h P
  unfold fInt at h
  split at h
  · cases h
    obtain ⟨v, rfl, hv⟩ := hs.one
    exact .inl ⟨_, by rw [hv.int_], P.int S⟩
  · cases h
    obtain ⟨v, rfl, hv⟩ := hs.one
    exact .inr ⟨_, by rw [hv.bl_], P.int S⟩
  · cases h
def fMaxM (c : Int → Int → Bool) : Fn0 := fun as st => match as with
  | [.int i, .int j] => some (.int (if c j i = true then j else i), st)
  | _ => none
def rMax2 : List V → Hp → VK → Prop := fun xs H Q => ∃ i j, xs = [.int i, .int j] ∧ Q (.int (if j > i then j else i)) H
def rMin2 : List V → Hp → VK → Prop := fun xs H Q => ∃ i j, xs = [.int i, .int j] ∧ Q (.int (if j < i then j else i)) H
abbrev fMax2 : Fn0 := fMaxM fun j i => decide (j > i)
abbrev fMin2 : Fn0 := fMaxM fun j i => decide (j < i)
theorem fMax2_ok : CallS K rMax2 fMax2 := by
  intro r H st ds vs z st' Q S hs h P
  unfold fMax2 fMaxM at h
  split at h
  · rename_i i j
    cases h
    obtain ⟨v, w, rfl, hv, hw⟩ := hs.two
    refine ⟨i, j, by rw [hv.int_, hw.int_], ?_⟩
    simp only [decide_eq_true_eq] at P
    exact P.int S
  · cases h
theorem fMin2_ok : CallS K rMin2 fMin2 := by
  intro r H st ds vs z st' Q S hs h P
  unfold fMin2 fMaxM at h
  split at h
  · rename_i i j
    cases h
    obtain ⟨v, w, rfl, hv, hw⟩ := hs.two
    refine ⟨i, j, by rw [hv.int_, hw.int_], ?_⟩
    simp only [decide_eq_true_eq] at P
    exact P.int S
  · cases h
/-- a list of ints that is read -/
def rdI (d : D) (st : Store) : Option (List Int) := match rdlOf d st with
  | some ds => intsD ds
  | none => none
theorem rdI_ok {r : Ad} {H : Hp} {st : Store} {d : D} {v : V} {ns : List Int} (S : Sim K r H st) (h : RD K r H d v) (e : rdI d st = some ns) : ∃ a, v = .ref a ∧ SqL K H a (ns.map V.int) := by
  unfold rdI at e
  split at e
  · rename_i ds e2
    obtain ⟨a, vs, rfl, s, t⟩ := rdlOf_ok S h e2
    rw [intsD_eq e] at t
    rw [t.ints] at s
    exact ⟨a, rfl, s⟩
  · cases e
def fSum : Fn0 := fun as st => match as with
  | [d] => match rdI d st with
    | some ns => some (.int ns.sum, st)
    | none => none
  | _ => none
theorem fSum_ok : CallS K (rSum K) fSum := by
  intro r H st ds vs z st' Q S hs h P
  unfold fSum at h
  split at h
  · obtain ⟨v, rfl, hv⟩ := hs.one
    split at h
    · rename_i ns e
      cases h
      obtain ⟨a, rfl, s⟩ := rdI_ok S hv e
      exact ⟨a, ns, rfl, s, P.int S⟩
    · cases h
  · cases h
/-- truths alone -/
def blsD : List D → Option (List Bool)
  | [] => some []
  | .bl i :: ds => (blsD ds).map (i :: ·)
  | _ => none
theorem blsD_ok {r : Ad} {H : Hp} : ∀ {ds : List D} {ns : List Bool} {vs : List V}, blsD ds = some ns → RDs K r H ds vs → vs = ns.map V.bl
  | [], ns, vs, h, q => by cases h; rw [q.nil_]; rfl
  | d :: ds, ns, vs, h, q => by
    cases d with
    | bl i =>
      unfold blsD at h
      simp only [RDs] at q
      obtain ⟨v, r', rfl, h1, h2⟩ := q
      cases q : blsD ds with
      | none => rw [q] at h; cases h
      | some ms => rw [q] at h; cases h; rw [h1.bl_, blsD_ok q h2]; rfl
    | _ => cases h
def fTuple : Fn0 := fun as st => match as with
  | [.tup ds] => some (.tup ds, st)
  | [d] => match rdlOf d st with
    | some ds => some (.tup ds, st)
    | none => none
  | _ => none
def rTupleAll (K : PySem.W.Frag) : List V → Hp → VK → Prop := fun xs H Q => ∃ p ys, xs = [.ref p] ∧ ((SqL K H p ys ∧ ∀ l, H l = none → Q (.ref l) (upd H l (.tup ys))) ∨ (SqT K H p ys ∧ Q (.ref p) H))
theorem fTuple_ok : CallS K (rTupleAll K) fTuple := by
  intro r H st ds vs z st' Q S hs h P
  unfold fTuple at h
  split at h
  · cases h
    obtain ⟨v, rfl, hv⟩ := hs.one
    have hv' := hv
    obtain ⟨a, ws, rfl, s, t⟩ := tup_ok hv
    exact ⟨a, ws, rfl, .inr ⟨s, P.here S hv'⟩⟩
  · obtain ⟨v, rfl, hv⟩ := hs.one
    split at h
    · rename_i xs e
      cases h
      obtain ⟨a, ws, rfl, s, t⟩ := rdlOf_ok S hv e
      exact ⟨a, ws, rfl, .inl ⟨s, fun p hp => P.tup S t hp⟩⟩
    · cases h
  · cases h
def rListAll (K : PySem.W.Frag) : List V → Hp → VK → Prop := fun xs H Q => ∃ p ys, xs = [.ref p] ∧ (SqL K H p ys ∨ SqT K H p ys) ∧ ∀ l, H l = none → Q (.ref l) (upd H l (.lst ys))
/-- a thing made by a call -/
abbrev Fo0 := List D → Store → Option Ob
def oList : Fo0 := fun as st => match as with
  | [d] => match seqOf d st with
    | some ds => some (.lst ds)
    | none => none
  | _ => none
def rSortDI : List V → Hp → VK → Prop := fun xs H Q => ∃ (a : Addr) (kvs : List (Key × V)) (ks : List Int), xs = [.ref a] ∧ Rd H a (.dK kvs) ∧ kvs.map (·.1) = ks.map Sum.inl ∧ ks.length < 64 ∧
    ∀ (ys : List Int) (p : Addr), ys.Perm ks → ys.Pairwise (· ≤ ·) → H p = none → Q (.ref p) (upd H p (.lst (ys.map V.int)))
/-- what is made by a call: the rule -/
def FoS (K : PySem.W.Frag) (rr : List V → Hp → VK → Prop) (F : Fo0) : Prop := ∀ r H st ds vs ob Q,
  Sim K r H st → RDs K r H ds vs → F ds st = some ob → (∀ p o, H p = none → RO K r H ob (some o) → Q (.ref p) (upd H p o)) → rr vs H Q
theorem oList_ok : FoS K (rListAll K) oList := by
  intro r H st ds vs ob Q S hs h P
  unfold oList at h
  split at h
  · obtain ⟨v, rfl, hv⟩ := hs.one
    split at h
    · rename_i xs e
      cases h
      obtain ⟨a, ws, rfl, s, t⟩ := seqOf_ok S hv e
      exact ⟨a, ws, rfl, s, fun p hp => P p _ hp ⟨ws, rfl, t⟩⟩
    · cases h
  · cases h
def oSorted : Fo0 := fun as st => match as with
  | [d] => match rdI d st with
    | some ns => some (.lst ((srtI ns).map D.int))
    | none => none
  | _ => none
theorem oSorted_ok : FoS K (rSortedI K) oSorted := by
  intro r H st ds vs ob Q S hs h P
  unfold oSorted at h
  split at h
  · obtain ⟨v, rfl, hv⟩ := hs.one
    split at h
    · rename_i ns e
      cases h
      obtain ⟨a, rfl, s⟩ := rdI_ok S hv e
      refine ⟨a, ns, rfl, s, fun ns' p h1 h2 hp => ?_⟩
      rw [srtI_only h1 h2]
      exact P p _ hp ⟨_, rfl, RDs.ofInts _⟩
    · cases h
  · cases h
end
/-- a call that makes a thing: a function | a type -/
def fCall (F : Fo0) (as : M (List D)) : M Ob := xbnd as fun ds _ st => match F ds st with
  | some ob => some (.ok ob, st)
  | none => none
section
variable {X : Cx} {EW : EWt}
theorem fcall_weak {rr : List V → Hp → VK → Prop} {F : Fo0} {ms : M (List D)} {σ : L2.St} {H : Hp} {Q : VK} (hf : FoS X.K rr F) (h : tF X.K EW (fCall F ms) σ H Q) : tA X.K EW ms σ H fun vs H1 => rr vs H1 Q := by
  obtain ⟨r, e, st, out, st', S, hE, h, P⟩ := h
  refine bnd_stepO S hE h P fun r1 H1 vs ds st1 S1 x1 hE1 hd h1 => ?_
  dsimp only at h1
  split at h1
  · rename_i ob e
    cases h1
    exact hf r1 H1 _ ds vs ob Q S1 hd e fun p o hp q => P.lay S S1 x1 hp q
  · cases h1
/-- what a call of a builtin makes -/
theorem f_bf {x : Str} {p pos : Pos} {a : Expr} {es : List Expr} {id : String} {rr : List V → Hp → VK → Prop} {F : Fo0} {ms : M (List D)} (hc : CallR X (.builtin id) rr) (hf : FoS X.K rr F) (hg : Gl X x) (hm : X.mg x = none) (hv : bootBuiltins x = some (.builtin id)) (ha : As X EW (a :: es) ms)
    (hn : x ≠ "__name__" := by decide) (hdb : (x == ("__debug__" : Str)) = false := by decide) (he : starEach (a :: es) X.env = (false, eval a X.env) :: starEach es X.env := by rfl) (hpl : (backTo pos (starEach es X.env)).any (·.1) = false := by rfl) : EF X EW (.Call (.Name x p) (a :: es) [] pos) (fCall F ms) :=
  PE.weak (pe_callB hc hg hm hv ha hn hdb he hpl) fun _ _ _ h => fcall_weak hf h
theorem f_ty {x : Str} {p pos : Pos} {a : Expr} {es : List Expr} {Ty : String} {rr : List V → Hp → VK → Prop} {F : Fo0} {ms : M (List D)} (hc : CallR X (.type Ty) rr) (hf : FoS X.K rr F) (hg : Gl X x) (hm : X.mg x = none) (hv : bootBuiltins x = some (.type Ty)) (ha : As X EW (a :: es) ms)
    (hn : x ≠ "__name__" := by decide) (hdb : (x == ("__debug__" : Str)) = false := by decide) (he : starEach (a :: es) X.env = (false, eval a X.env) :: starEach es X.env := by rfl) (hpl : (backTo pos (starEach es X.env)).any (·.1) = false := by rfl) : EF X EW (.Call (.Name x p) (a :: es) [] pos) (fCall F ms) :=
  PE.weak (pe_callTy hc hg hm hv ha hn hdb he hpl) fun _ _ _ h => fcall_weak hf h
end
/-! ### sorted: a list of ints, a dict with keys that are ints -/
def keysI : List D → Option (List Int) := intsD
def rSortD : List V → Hp → VK → Prop := fun xs H Q => ∃ (a : Addr) (kvs : List (Key × V)) (ks : List Int), xs = [.ref a] ∧ H a = some (.dK kvs) ∧ kvs.map (fun kv => kv.1) = ks.map Sum.inl ∧
    ∀ (ys : List Int) (p : Addr), ys.Perm ks → ys.Pairwise (· ≤ ·) → H p = none → Q (.ref p) (upd H p (.lst (ys.map V.int)))
open PyProof.Rows in
theorem cr_sortD {X : Cx} (calm : X.calm = true) : CallR X (.builtin "sorted") rSortD := by
  intro pins s σ H vs us Q I rel hh
  rcases hh with ⟨a, kvs, ks, rfl, hd, hks, q⟩
  rw [Vals.ref1 rel]
  rcases dk_rd I.hok (.inl hd) with ⟨small, lo, vs, rl, dd⟩
  rcases dd.dictAt with ⟨ep, at_⟩
  have e0 : vs.map (·.1) = ks.map Sum.inl := rl.keys.symm.trans hks
  have e1 : vs.length = ks.length := by simpa using congrArg List.length e0
  have e2 : kvs.length = ks.length := by simpa using congrArg List.length hks
  have e3 : ks.length ≤ sizeLine := by rw [← e2]; exact small
  apply Calls.call_function_entry kind_sorted plain_sorted entry_sorted (args_sorted1 _)
  unfold Builtin.«sorted»
  apply wpAny_bind (m := checkCount "sorted" 1 1 _)
  apply wpAny_pure
  apply wpAny_bind
  apply PySem.W.kdu_collect (A := X.A.in1) (PySem.W.kdl_dict (knd := mixKind X.prog X.w) (kvs := vs) (ep := ep) lo) (I.ok.hd calm) at_ (by rw [e1]; exact e3)
  intro h1 tk acc keep got
  have e4 : acc.toList.length = ks.length := by rw [Array.length_toList, got.1, e1]
  have hint : IntsAre acc.toList ks := by
    refine ints_each e4 fun j u eu => ?_
    rcases got.2 j u (by simpa using eu) with ⟨k, y, g1, g2⟩
    have g3 : (ks.map Sum.inl)[j]? = some k := by rw [← e0, List.getElem?_map, g1]; rfl
    rw [List.getElem?_map] at g3
    rcases hz : ks[j]? with _ | z
    · rw [hz] at g3; simp at g3
    · rw [hz] at g3
      simp only [Option.map_some, Option.some.injEq] at g3
      subst g3
      rcases keyIs_shape (show keyIs (Sum.inl z) u = true from g2) with ⟨i, t, ek, ev⟩ | ⟨w, t, ek, ev⟩
      · injection ek with ek; subst ek; exact ⟨z, t, rfl, ev⟩
      · exact nomatch ek
  have J : Inv X pins σ H { s with heap := h1, toks := tk } := I.kept keep
  apply wpAny_bind
  refine wpAny_newList ?_ (by rw [e4]; exact e3)
  have stands : (h1.push (seqObj "list" acc.toList.toArray 0)).get? h1.objs.size = some (seqObj "list" acc.toList.toArray 0) := Heap.get?_push_size _ rfl
  show wpAny _ _ _ _ _ { s with heap := h1.push (seqObj "list" acc.toList.toArray 0), toks := tk }
  refine wpAny_bind (wpAny_holding (wpAny_call_entry slot_list_sort ⟨_, stands, rfl⟩ entry_list_sort
    (SrtO.list_sort_ord (s := { s with heap := h1.push (seqObj "list" acc.toList.toArray 0), toks := tk }) SrtO.swo_int stands (by rw [e4]; exact e3) (fun h2 => SrtO.ints_sortable hint h2) fun out o1 o2 => ⟨_, rfl, ?_⟩) (args_list_sort _)))
  rcases SrtO.ints_out hint o1 o2 with ⟨k1, k2, k3⟩
  rcases sortedHeap_at (vs := acc.toList) (out := out.toArray) stands with ⟨ep2, at2⟩
  have fits : ((out.map SrtO.iv).map V.int).length ≤ sizeLine := by rw [List.length_map, k2.length_eq]; exact e3
  have laid := J.laid (a := h1.objs.size) (o := .lst ((out.map SrtO.iv).map V.int)) (h' := sortedHeap (h1.push (seqObj "list" acc.toList.toArray 0)) h1.objs.size acc.toList out.toArray) (t' := tk) (fun b u eb => by
    have lt := Heap.lt_size eb
    rw [sortedHeap_old (Nat.ne_of_lt lt) (by rw [size_push']; exact Nat.lt_succ_of_lt lt)]
    exact Heap.get?_push_of_some _ eb) (Nat.le_refl _) ⟨fits, out, ep2, vals_of_ints k1, at2⟩
  exact wpAny_pure ⟨_, rfl, .ref h1.objs.size, _, laid, rfl, q _ _ k2 k3 (J.hok.fresh (Nat.le_refl _))⟩
def oSortedAll : Fo0 := fun as st => match as with
  | [d] => match rdI d st with
    | some ns => some (.lst ((srtI ns).map D.int))
    | none => match dctOf d st with
      | some p => match intsD p.1 with
        | some ns => some (.lst ((srtI ns).map D.int))
        | none => none
      | none => none
  | _ => none
def rSortAll (K : PySem.W.Frag) : List V → Hp → VK → Prop := fun xs H Q => rSortedI K xs H Q ∨ rSortD xs H Q
theorem cr_sortAll {X : Cx} (calm : X.calm = true) : CallR X (.builtin "sorted") (rSortAll X.K) := CallR.or cr_sortedI (cr_sortD calm)
theorem kD_ints : ∀ {kvs : List (Key × V)} {ns : List Int}, kvs.map (fun kv => kD kv.1) = ns.map D.int → kvs.map (fun kv => kv.1) = ns.map Sum.inl
  | [], [], _ => rfl
  | [], _ :: _, h => by cases h
  | _ :: _, [], h => by cases h
  | (k, v) :: kvs, n :: ns, h => by
    simp only [List.map_cons, List.cons.injEq] at h ⊢
    refine ⟨?_, kD_ints h.2⟩
    cases k with
    | inl i => have e := h.1; simp only [kD] at e; cases e; rfl
    | inr i => have e := h.1; simp only [kD] at e; cases e
theorem oSortedAll_ok {K : PySem.W.Frag} : FoS K (rSortAll K) oSortedAll := by
  intro r H st ds vs ob Q S hs h P
  unfold oSortedAll at h
  split at h
  · rename_i d
    obtain ⟨v, rfl, hv⟩ := hs.one
    split at h
    · rename_i ns e
      exact .inl (oSorted_ok r H st [d] [v] ob Q S hs (by unfold oSorted; simp only [e]; exact h) P)
    · split at h
      · rename_i p e
        obtain ⟨ks, xs⟩ := p
        split at h
        · rename_i ns e2
          cases h
          obtain ⟨a, kvs, rfl, s, k, t⟩ := dctOf_ok S hv e
          have e3 := intsD_eq e2
          refine .inr ⟨a, kvs, ns, rfl, s, kD_ints (by rw [← k]; exact e3), fun ys p h1 h2 hp => ?_⟩
          rw [srtI_only h1 h2]
          exact P p _ hp ⟨_, rfl, RDs.ofInts _⟩
        · cases h
      · cases h
  · cases h
/-! ### repr of data -/
def rReprD (K : PySem.W.Frag) : List V → Hp → VK → Prop := fun xs H Q => ∃ a d, xs = [.ref a] ∧ Dp K H (.ref a) d ∧ d.showable = true ∧ d.hasDict = false ∧ d.depth ≤ 64 ∧ d.shown.length ≤ sizeLine ∧ Q (.str d.shown) H
open PyProof.Rows PyProof in
theorem cr_reprD {X : Cx} (hg : X.A.guards = some []) (hu : X.A.units + 66 < cLine) : CallR X (.builtin "repr") (rReprD X.K) := by
  intro pins s σ H vs us Q I rel hh
  rcases hh with ⟨a, d, rfl, dp, h1, h2, h3, h4, q⟩
  rw [Vals.ref1 rel]
  rcases Dp.reads I d (.ref a) (.ref a) dp rfl with ⟨as, rd⟩
  exact repr_of_reads' rd h1 (PyData.noDict_hsm h2) hg (by omega) (fun _ _ e => e) (fun h' u tk keep => ⟨.str d.shown, H, I.kept keep, ⟨u, rfl⟩, q⟩) h4
mutual
theorem PD.noDict {st : Store} : ∀ {d : D} {p : PyData}, PD st d p → p.hasDict = false
  | _, _, .non => by simp only [PyData.hasDict]
  | _, _, .bl _ => by simp only [PyData.hasDict]
  | _, _, .int _ => by simp only [PyData.hasDict]
  | _, _, .str _ => by simp only [PyData.hasDict]
  | _, _, .tup h => by simp only [PyData.hasDict]; exact PDs.noDict h
  | _, _, .lst h => by simp only [PyData.hasDict]; exact PDs.noDict h
  | _, _, .ref _ h => by simp only [PyData.hasDict]; exact PDs.noDict h
  | _, _, .fref _ h => by simp only [PyData.hasDict]; exact PDs.noDict h
theorem PDs.noDict {st : Store} : ∀ {d : List D} {p : List PyData}, PDs st d p → PyData.hasDictAll p = false
  | _, _, .nil => by simp only [PyData.hasDictAll]
  | _, _, .cons h t => by simp only [PyData.hasDictAll, PD.noDict h, PDs.noDict t, Bool.or_self]
end
def shows (p : PyData) : Prop := p.showable = true ∧ p.depth ≤ 64 ∧ p.shown.length ≤ sizeLine
open Classical in
noncomputable def fRepr : Fn0 := fun as st => match as with
  | [.int i] => if i.natAbs.log2 < 1920 then some (.str (toString i), st) else none
  | [d] => if h : (∃ ds, seqOf d st = some ds) ∧ ∃ p, PD st d p ∧ shows p then some (.str (Classical.choose h.2).shown, st) else none
  | _ => none
def rReprAll (K : PySem.W.Frag) : List V → Hp → VK → Prop := fun xs H Q => (∃ i, xs = [.int i] ∧ i.natAbs.log2 < 1920 ∧ Q (.str (toString i)) H) ∨ rReprD K xs H Q
theorem cr_reprAll {X : Cx} (hg : X.A.guards = some []) (hu : X.A.units + 66 < cLine) : CallR X (.builtin "repr") (rReprAll X.K) := CallR.or SkE.call_repr_int (cr_reprD hg hu)
theorem fRepr_of {d : D} {st : Store} {p : PyData} {ds : List D} (hp : PD st d p) (hs : shows p) (hq : seqOf d st = some ds) : fRepr [d] st = some (.str p.shown, st) := by
  have e : (∃ ds, seqOf d st = some ds) ∧ ∃ p, PD st d p ∧ shows p := ⟨⟨ds, hq⟩, p, hp, hs⟩
  have e2 : Classical.choose e.2 = p := (Classical.choose_spec e.2).1.det hp
  cases d with
  | int i => cases hq
  | _ => unfold fRepr; simp only [dif_pos e, e2]
theorem fRepr_ok {K : PySem.W.Frag} : CallS K (rReprAll K) fRepr := by
  intro r H st ds vs z st' Q S hs h P
  unfold fRepr at h
  split at h
  · split at h
    · rename_i i hi
      cases h
      obtain ⟨v, rfl, hv⟩ := hs.one
      exact .inl ⟨i, by rw [hv.int_], hi, P.str S⟩
    · cases h
  · rename_i d _
    split at h
    · rename_i e
      cases h
      obtain ⟨v, rfl, hv⟩ := hs.one
      have e3 := Classical.choose_spec e.2
      obtain ⟨⟨xs, e1⟩, _⟩ := e
      obtain ⟨a, ws, rfl, _⟩ := seqOf_ok S hv e1
      exact .inr ⟨a, _, rfl, e3.1.dp S hv, e3.2.1, e3.1.noDict, e3.2.2.1, e3.2.2.2, P.str S⟩
    · cases h
  · cases h
end FW

set_option maxHeartbeats 4000000
namespace FW
open PySem L2

/-! ### what is walked: numbers, pairs -/
def rngD (lo : Int) (n : Nat) : List D := (List.range n).map fun (i : Nat) => D.int (lo + i)
def rngC (lo c : Int) (n : Nat) : List D := (List.range n).map fun (i : Nat) => D.int (lo + i * c)
theorem rngD_get {lo : Int} {n i : Nat} {d : D} (h : (rngD lo n)[i]? = some d) : i < n ∧ d = .int (lo + i) := by
  unfold rngD at h
  rw [List.getElem?_map] at h
  cases q : (List.range n)[i]? with
  | none => rw [q] at h; cases h
  | some j =>
    rw [q] at h
    obtain ⟨h1, h2⟩ := List.getElem?_eq_some_iff.mp q
    simp only [List.length_range] at h1
    simp only [List.getElem_range] at h2
    subst h2
    cases h
    exact ⟨h1, rfl⟩
theorem rngC_get {lo c : Int} {n i : Nat} {d : D} (h : (rngC lo c n)[i]? = some d) : i < n ∧ d = .int (lo + i * c) := by
  unfold rngC at h
  rw [List.getElem?_map] at h
  cases q : (List.range n)[i]? with
  | none => rw [q] at h; cases h
  | some j =>
    rw [q] at h
    obtain ⟨h1, h2⟩ := List.getElem?_eq_some_iff.mp q
    simp only [List.length_range] at h1
    simp only [List.getElem_range] at h2
    subst h2
    cases h
    exact ⟨h1, rfl⟩
theorem itOk_rng {K : PySem.W.Frag} {r : Ad} {H : Hp} {lo : Int} {n : Nat} : ItOk K r H ⟨rngD lo n, []⟩ (Itr lo n) := by
  intro r1 H1 st1 S t hh
  refine ⟨fun i hi => show n ≤ i by simpa [rngD] using hi, fun i d hd => ?_⟩
  obtain ⟨h1, rfl⟩ := rngD_get hd
  refine ⟨h1, fun x H2 hy => ?_⟩
  obtain ⟨rfl, rfl⟩ := hy
  exact ⟨S, Ext.refl _ _ _, by simp only [RD]⟩
theorem itOk_rngC {K : PySem.W.Frag} {r : Ad} {H : Hp} {lo c : Int} {n : Nat} : ItOk K r H ⟨rngC lo c n, []⟩ (Itc lo c n) := by
  intro r1 H1 st1 S t hh
  refine ⟨fun i hi => show n ≤ i by simpa [rngC] using hi, fun i d hd => ?_⟩
  obtain ⟨h1, rfl⟩ := rngC_get hd
  refine ⟨h1, fun x H2 hy => ?_⟩
  obtain ⟨rfl, rfl⟩ := hy
  exact ⟨S, Ext.refl _ _ _, by simp only [RD]⟩
def i62 (i : Int) : Bool := decide (-(2 ^ 62) ≤ i) && decide (i < 2 ^ 62)
theorem i62_ok {i : Int} (h : i62 i = true) : -(2 ^ 62) ≤ i ∧ i < 2 ^ 62 := by
  unfold i62 at h
  rw [Bool.and_eq_true, decide_eq_true_eq, decide_eq_true_eq] at h
  exact h
/-- what is walked, by values -/
abbrev FI := List D → Store → Option Itm
def iOf (f : FI) (m : M (List D)) : M Itm := xbnd m fun ds _ st => match f ds st with
  | some i => some (.ok i, st)
  | none => none
def ItS (K : PySem.W.Frag) (rr : List V → Hp → (L2.It → Hp → Prop) → Prop) (f : FI) : Prop := ∀ r H st ds vs it Q,
  Sim K r H st → RDs K r H ds vs → f ds st = some it → (∀ J, ItOk K r H it J → Q J H) → rr vs H Q
theorem iOf_weak {K : PySem.W.Frag} {EW : EWt} {rr : List V → Hp → (L2.It → Hp → Prop) → Prop} {f : FI} {m : M (List D)} {σ : L2.St} {H : Hp} {Q : L2.It → Hp → Prop} (hf : ItS K rr f) (h : tI K EW (iOf f m) σ H Q) : tA K EW m σ H fun vs H1 => rr vs H1 Q := by
  obtain ⟨r, e, st, out, st', S, hE, h, P⟩ := h
  refine bnd_stepI S hE h P fun r1 H1 vs ds st1 S1 x1 hE1 hd h1 => ?_
  dsimp only at h1
  split at h1
  · rename_i it q
    cases h1
    exact hf r1 H1 _ ds vs it Q S1 hd q fun J hJ => P r1 H1 J S1 x1 hJ
  · cases h1
def rng1 : FI := fun ds _ => match ds with
  | [.int j] => if i62 j = true then some ⟨rngD 0 j.toNat, []⟩ else none
  | _ => none
def rng2 : FI := fun ds _ => match ds with
  | [.int i, .int j] => if (i62 i && i62 j) = true then some ⟨rngD i (j - i).toNat, []⟩ else none
  | _ => none
open Classical in
noncomputable def rng3 : FI := fun ds _ => match ds with
  | [.int i, .int j, .int c] => if RgC i j c (Builtin.Range.rangeSize i j c).toNat then some ⟨rngC i c (Builtin.Range.rangeSize i j c).toNat, []⟩ else none
  | _ => none
section
variable {K : PySem.W.Frag}
theorem rng1_ok : ItS K (fun vs H R => ∃ j : Int, vs = [.int j] ∧ -(2 ^ 62) ≤ j ∧ j < 2 ^ 62 ∧ R (Itr 0 j.toNat) H) rng1 := by
  intro r H st ds vs it Q S hd h P
  unfold rng1 at h
  split at h
  · split at h
    · rename_i j h2
      cases h
      obtain ⟨v, rfl, hv⟩ := hd.one
      exact ⟨j, by rw [hv.int_], (i62_ok h2).1, (i62_ok h2).2, P _ itOk_rng⟩
    · cases h
  · cases h
theorem rng2_ok : ItS K (fun vs H R => ∃ i j : Int, vs = [.int i, .int j] ∧ (-(2 ^ 62) ≤ i ∧ i < 2 ^ 62 ∧ -(2 ^ 62) ≤ j ∧ j < 2 ^ 62) ∧ R (Itr i (j - i).toNat) H) rng2 := by
  intro r H st ds vs it Q S hd h P
  unfold rng2 at h
  split at h
  · split at h
    · rename_i i j h2
      cases h
      rw [Bool.and_eq_true] at h2
      obtain ⟨v, w, rfl, hv, hw⟩ := hd.two
      exact ⟨i, j, by rw [hv.int_, hw.int_], ⟨(i62_ok h2.1).1, (i62_ok h2.1).2, (i62_ok h2.2).1, (i62_ok h2.2).2⟩, P _ itOk_rng⟩
    · cases h
  · cases h
theorem rng3_ok : ItS K (fun vs H R => ∃ (i j c : Int) (n : Nat), vs = [.int i, .int j, .int c] ∧ RgC i j c n ∧ R (Itc i c n) H) rng3 := by
  intro r H st ds vs it Q S hd h P
  unfold rng3 at h
  split at h
  · split at h
    · rename_i i j c h2
      cases h
      obtain ⟨v, w, u, rfl, hv, hw, hu⟩ := hd.three
      exact ⟨i, j, c, _, by rw [hv.int_, hw.int_, hu.int_], h2, P _ itOk_rngC⟩
    · cases h
  · cases h
end
/-- two lists, two tuples side by side -/
def zipD (xs ys : List D) : List D := List.zipWith (fun x y => .tup [x, y]) xs ys
def isTup : D → Bool
  | .tup _ => true
  | _ => false
def zipI : FI := fun ds st => match ds with
  | [a, b] => match itV a st, itV b st with
    | some i, some j => if isTup a = isTup b then some ⟨zipD i.ds j.ds, i.src ++ j.src⟩ else none
    | _, _ => none
  | _ => none
theorem zipD_get {xs ys : List D} {i : Nat} {d : D} (h : (zipD xs ys)[i]? = some d) : ∃ x y, xs[i]? = some x ∧ ys[i]? = some y ∧ d = .tup [x, y] := by
  unfold zipD at h
  rw [List.getElem?_zipWith] at h
  cases q : xs[i]? with
  | none => rw [q] at h; cases h
  | some x =>
    cases q2 : ys[i]? with
    | none => rw [q, q2] at h; cases h
    | some y => rw [q, q2] at h; cases h; exact ⟨x, y, rfl, rfl, rfl⟩
theorem zipD_len (xs ys : List D) : (zipD xs ys).length = min xs.length ys.length := by simp [zipD]
/-- a list, a tuple that is walked: at each later state -/
def ItAt (K : PySem.W.Frag) (r : Ad) (H : Hp) (it : Itm) (Sq : Hp → Addr → List V → Prop) (a : Addr) : Prop :=
  ∀ r1 H1 st1, Sim K r1 H1 st1 → Tr K r H r1 H1 → it.hold st1 → ∃ vs, Sq H1 a vs ∧ RDs K r1 H1 it.ds vs
theorem Tr.refl_ {K : PySem.W.Frag} {r : Ad} {H : Hp} : Tr K r H r H := ⟨fun _ _ e _ n => ⟨e, n⟩, fun _ _ z => z, fun _ _ z => z⟩
theorem itAt_ok {K : PySem.W.Frag} {r : Ad} {H : Hp} {st : Store} {d : D} {v : V} {it : Itm} (S : Sim K r H st) (hd : RD K r H d v) (h : itV d st = some it) :
    ∃ a, v = .ref a ∧ it.hold st ∧ ((isTup d = false ∧ ItAt K r H it (SqL K) a) ∨ (isTup d = true ∧ ItAt K r H it (SqT K) a)) := by
  cases d with
  | tup ds =>
    cases h
    simp only [RD] at hd
    obtain ⟨a, vs, rfl, s, q⟩ := hd
    exact ⟨a, rfl, hold_none, .inr ⟨rfl, fun r1 H1 st1 S1 t hh => ⟨vs, t.tup a vs s, q.tr t⟩⟩⟩
  | lst ds =>
    cases h
    simp only [RD] at hd
    obtain ⟨a, vs, rfl, s, n, q⟩ := hd
    exact ⟨a, rfl, hold_none, .inl ⟨rfl, fun r1 H1 st1 S1 t hh => ⟨vs, .of (t.obj a _ s (fun _ z => by cases z) n).1, q.tr t⟩⟩⟩
  | ref n =>
    unfold itV at h
    cases q : st[n]? with
    | none => simp only [q] at h; cases h
    | some o =>
      obtain ⟨a, rfl, h1, h2⟩ := S.at_ hd q
      simp only [q] at h
      have main : ∀ ds : List D, it = ⟨ds, [(n, ds)]⟩ → ItAt K r H it (SqL K) a := fun ds e => by
        subst e
        intro r1 H1 st1 S1 t hh
        have hn := t.at_ n a h1
        rcases hh (n, ds) (by simp) with z | z
        · obtain ⟨vs, e1, t1⟩ := S1.ob n a _ hn z; exact ⟨vs, .of e1, t1⟩
        · obtain ⟨o, vs, e1, t1⟩ := S1.ob n a _ hn z; exact ⟨vs, .inl (.inr ⟨o, e1⟩), t1⟩
      cases o with
      | lst ds => cases h; exact ⟨a, rfl, fun p hp => by simp at hp; subst hp; exact .inl q, .inl ⟨rfl, main ds rfl⟩⟩
      | flst ds => cases h; exact ⟨a, rfl, fun p hp => by simp at hp; subst hp; exact .inr q, .inl ⟨rfl, main ds rfl⟩⟩
      | dct ks ds => cases h
  | _ => cases h
theorem hold_app {ds1 ds2 ds : List D} {s1 s2 : List (Nat × List D)} {st : Store} (h : Itm.hold ⟨ds, s1 ++ s2⟩ st) : Itm.hold ⟨ds1, s1⟩ st ∧ Itm.hold ⟨ds2, s2⟩ st := ⟨fun p m => h p (List.mem_append_left _ m), fun p m => h p (List.mem_append_right _ m)⟩
theorem zip_core {K : PySem.W.Frag} {r : Ad} {H : Hp} {i j : Itm} {a b : Addr} {Sq : Hp → Addr → List V → Prop} (hi : ItAt K r H i Sq a) (hj : ItAt K r H j Sq b) :
    ItOk K r H ⟨zipD i.ds j.ds, i.src ++ j.src⟩ ⟨fun i H => ∃ (xs ys : List V) (x y : V), Sq H a xs ∧ Sq H b ys ∧ xs[i]? = some x ∧ ys[i]? = some y,
      fun i H v H' => ∃ T x y, v = .ref T ∧ H T = none ∧ H' = upd H T (.tup [x, y]) ∧ (∀ xs, Sq H a xs → xs[i]? = some x) ∧ ∀ ys, Sq H b ys → ys[i]? = some y,
      fun i H => ∃ xs ys : List V, Sq H a xs ∧ Sq H b ys ∧ (xs.length ≤ i ∨ ys.length ≤ i)⟩ := by
  intro r1 H1 st1 S t hh
  obtain ⟨h1, h2⟩ := hold_app (ds1 := i.ds) (ds2 := j.ds) hh
  obtain ⟨xs, sx, tx⟩ := hi r1 H1 st1 S t h1
  obtain ⟨ys, sy, ty⟩ := hj r1 H1 st1 S t h2
  refine ⟨fun k hk => ⟨xs, ys, sx, sy, ?_⟩, fun k d hd => ?_⟩
  · rw [zipD_len, tx.length, ty.length] at hk
    omega
  · obtain ⟨x, y, e1, e2, rfl⟩ := zipD_get hd
    obtain ⟨v, g1, g2⟩ := tx.get e1
    obtain ⟨w, g3, g4⟩ := ty.get e2
    refine ⟨⟨xs, ys, v, w, sx, sy, g1, g3⟩, fun z H2 hy => ?_⟩
    obtain ⟨T, v', w', rfl, hT, rfl, k1, k2⟩ := hy
    have e3 := k1 xs sx
    have e4 := k2 ys sy
    rw [g1] at e3
    rw [g3] at e4
    cases e3
    cases e4
    obtain ⟨S2, x2⟩ := S.side (o := .tup [v, w]) hT
    exact ⟨S2, x2, by simp only [RD]; exact ⟨T, [v, w], rfl, .of upd_same, RDs.cons (g2.mono x2) (RDs.cons (g4.mono x2) RDs.nil)⟩⟩
theorem zipI_ok {K : PySem.W.Frag} : ItS K (fun vs H R => ∃ a b xs ys, vs = [.ref a, .ref b] ∧ ((SqL K H a xs ∧ SqL K H b ys ∧ R (Itz K a b) H) ∨ (SqT K H a xs ∧ SqT K H b ys ∧ R (RZ.ItzT K a b) H))) zipI := by
  intro r H st ds vs it Q S hd h P
  unfold zipI at h
  split at h
  · rename_i d c
    obtain ⟨v, w, rfl, hv, hw⟩ := hd.two
    split at h
    · rename_i i j e1 e2
      split at h
      · rename_i ht
        cases h
        obtain ⟨a, rfl, o1, h1⟩ := itAt_ok S hv e1
        obtain ⟨b, rfl, o2, h2⟩ := itAt_ok S hw e2
        rcases h1 with ⟨k1, h1⟩ | ⟨k1, h1⟩
        · rcases h2 with ⟨k2, h2⟩ | ⟨k2, h2⟩
          · obtain ⟨xs, sx, _⟩ := h1 r H st S Tr.refl_ o1
            obtain ⟨ys, sy, _⟩ := h2 r H st S Tr.refl_ o2
            exact ⟨a, b, xs, ys, rfl, .inl ⟨sx, sy, P _ (zip_core h1 h2)⟩⟩
          · rw [k1, k2] at ht; cases ht
        · rcases h2 with ⟨k2, h2⟩ | ⟨k2, h2⟩
          · rw [k1, k2] at ht; cases ht
          · obtain ⟨xs, sx, _⟩ := h1 r H st S Tr.refl_ o1
            obtain ⟨ys, sy, _⟩ := h2 r H st S Tr.refl_ o2
            exact ⟨a, b, xs, ys, rfl, .inr ⟨sx, sy, P _ (zip_core h1 h2)⟩⟩
      · cases h
    · cases h
  · cases h
/-- a list and its places -/
def enumD (xs : List D) : List D := List.zipWith (fun (i : Nat) x => .tup [.int i, x]) (List.range xs.length) xs
section
variable {X : Cx} {EW : EWt}
theorem i_range1 {tg a : Expr} {p pos : Pos} {m : M (List D)} (hg : Gl X "range") (hm : X.mg "range" = none) (h : As X EW [a] m) (hs : starEach [a] X.env = [(false, eval a X.env)] := by rfl) : I_ X EW tg (.Call (.Name "range" p) [a] [] pos) (iOf rng1 m) :=
  PI.weak (pi_range1 hg hm h hs) fun _ _ _ h => iOf_weak rng1_ok h
theorem i_range2 {tg a b : Expr} {p pos : Pos} {m : M (List D)} (hg : Gl X "range") (hm : X.mg "range" = none) (h : As X EW [a, b] m) (hs : starEach [a, b] X.env = [(false, eval a X.env), (false, eval b X.env)] := by rfl) (hs2 : starEach [b] X.env = [(false, eval b X.env)] := by rfl) :
    I_ X EW tg (.Call (.Name "range" p) [a, b] [] pos) (iOf rng2 m) :=
  PI.weak (pi_range2 hg hm h hs hs2) fun _ _ _ h => iOf_weak rng2_ok h
theorem i_range3 {tg a b c : Expr} {p pos : Pos} {m : M (List D)} (hg : Gl X "range") (hm : X.mg "range" = none) (h : As X EW [a, b, c] m) (hs : starEach [a, b, c] X.env = (false, eval a X.env) :: starEach [b, c] X.env := by rfl) (hpl : (backTo pos (starEach [b, c] X.env)).any (·.1) = false := by rfl) :
    I_ X EW tg (.Call (.Name "range" p) [a, b, c] [] pos) (iOf rng3 m) :=
  PI.weak (pi_range3 hg hm h hs hpl) fun _ _ _ h => iOf_weak rng3_ok h
theorem i_zip {e e2 : Expr} {p pos tpos : Pos} {elts : List Expr} {kk : Nat} {m : M (List D)} (hg : Gl X "zip") (hm : X.mg "zip" = none) (h : As X EW [e, e2] m)
    (hs : starEach [e, e2] X.env = (false, eval e X.env) :: starEach [e2] X.env := by rfl) (hpl : (backTo pos (starEach [e2] X.env)).any (·.1) = false := by rfl) :
    I_ X EW (.Tuple elts kk tpos) (.Call (.Name "zip" p) [e, e2] [] pos) (iOf zipI m) :=
  PI.weak (RZ.pi_zipA hg hm h hs hpl) fun _ _ _ h => iOf_weak zipI_ok h
end
end FW

set_option maxHeartbeats 4000000
namespace FW
open PySem L2

/-! ### tuple(range(..)), list(range(..)) -/
open PyProof.Rows in
def PRn (X : Cx) (e : Expr) (t : L2.St → Hp → (Int → Int → Nat → Hp → Prop) → Prop) : Prop := ∀ (pins : List (Addr × Obj)) (s : Shared) (σ : L2.St) (H : Hp) (Q : Int → Int → Nat → Hp → Prop), Inv X pins σ H s → t σ H Q →
  wpAny (model X.prog X.w) X.A (eval e X.env) (fun x s' => ∃ r a b c n t u v H', x = .ref r ∧ IsRange s'.heap r a b c t u v ∧ Builtin.Range.small a b c = true ∧ Builtin.Range.rangeSize a b c = (n : Nat) ∧ Inv X pins σ H' s' ∧ Q a c n H') X.xe s
/-- numbers of a range: from, step, how many -/
abbrev FR := List D → Option (Int × Int × Nat)
def rg1 : FR := fun ds => match ds with
  | [.int j] => if i62 j = true then some (0, 1, j.toNat) else none
  | _ => none
def rg2 : FR := fun ds => match ds with
  | [.int i, .int j] => if (i62 i && i62 j) = true then some (i, 1, (j - i).toNat) else none
  | _ => none
open Classical in
noncomputable def rg3 : FR := fun ds => match ds with
  | [.int i, .int j, .int c] => if RgC i j c (Builtin.Range.rangeSize i j c).toNat then some (i, c, (Builtin.Range.rangeSize i j c).toNat) else none
  | _ => none
def tRn (K : PySem.W.Frag) (EW : EWt) (f : FR) (m : M (List D)) : L2.St → Hp → (Int → Int → Nat → Hp → Prop) → Prop := fun σ H Q => tA K EW m σ H fun vs H1 => ∃ r st ds lo c n, Sim K r H1 st ∧ RDs K r H1 ds vs ∧ f ds = some (lo, c, n) ∧ Q lo c n H1
section
variable {X : Cx} {EW : EWt} {f : FR} {ms : M (List D)}
open PyProof.Rows
theorem rn_1 {a : Expr} {p pos : Pos} (hg : Gl X "range") (hm : X.mg "range" = none) (h : As X EW [a] ms) (hs : starEach [a] X.env = [(false, eval a X.env)] := by rfl) : PRn X (.Call (.Name "range" p) [a] [] pos) (tRn X.K EW rg1 ms) := by
  intro pins s σ H Q I w
  refine Call_ (ld_blt I hg hm boot_range (callWith_type1 (thn (h.run pos pins s σ H _ I w) fun us s1 ⟨vs, H1, I1, r1, q1⟩ => ?_) hs rfl))
  obtain ⟨r, st, ds, lo, c, n, S, hd, e, q⟩ := q1
  unfold rg1 at e
  split at e
  · split at e
    · rename_i j hj
      cases e
      obtain ⟨v, rfl, hv⟩ := hd.one
      rw [hv.int_] at r1
      obtain ⟨u, rfl, t, rfl⟩ := vals1 r1
      obtain ⟨b1, b2⟩ := i62_ok hj
      exact call_range_1 ⟨_, 0, j, 1, j.toNat, _, _, _, H1, rfl, IsRange.new _ _ _ _ _ _ _, small_one (by omega) (by omega) b1 b2, by simpa using rangeSize_nat 0 j, I1.kept fun b u e => Heap.get?_push_of_some _ e, q⟩
    · cases e
  · cases e
theorem rn_2 {a b : Expr} {p pos : Pos} (hg : Gl X "range") (hm : X.mg "range" = none) (h : As X EW [a, b] ms) (hs : starEach [a, b] X.env = [(false, eval a X.env), (false, eval b X.env)] := by rfl) (hs2 : starEach [b] X.env = [(false, eval b X.env)] := by rfl) :
    PRn X (.Call (.Name "range" p) [a, b] [] pos) (tRn X.K EW rg2 ms) := by
  intro pins s σ H Q I w
  refine Call_ (ld_blt I hg hm boot_range (callWith_type1 (thn (h.run pos pins s σ H _ I w) fun us s1 ⟨vs, H1, I1, r1, q1⟩ => ?_) (by rw [hs, hs2]) (by rw [hs2]; rfl)))
  obtain ⟨r, st, ds, lo, c, n, S, hd, e, q⟩ := q1
  unfold rg2 at e
  split at e
  · split at e
    · rename_i i j hj
      cases e
      rw [Bool.and_eq_true] at hj
      obtain ⟨v, v', rfl, hv, hv'⟩ := hd.two
      rw [hv.int_, hv'.int_] at r1
      obtain ⟨u, u', rfl, ⟨t, rfl⟩, t', rfl⟩ := r1.two
      obtain ⟨b1, b2⟩ := i62_ok hj.1
      obtain ⟨b3, b4⟩ := i62_ok hj.2
      exact call_range_2 ⟨_, _, j, 1, _, _, _, _, H1, rfl, IsRange.new _ _ _ _ _ _ _, small_one b1 b2 b3 b4, rangeSize_nat _ j, I1.kept fun b u e => Heap.get?_push_of_some _ e, q⟩
    · cases e
  · cases e
theorem rn_3 {a b c : Expr} {p pos : Pos} (hg : Gl X "range") (hm : X.mg "range" = none) (h : As X EW [a, b, c] ms) (hs : starEach [a, b, c] X.env = (false, eval a X.env) :: starEach [b, c] X.env := by rfl) (hpl : (backTo pos (starEach [b, c] X.env)).any (·.1) = false := by rfl) :
    PRn X (.Call (.Name "range" p) [a, b, c] [] pos) (tRn X.K EW rg3 ms) := by
  intro pins s σ H Q I w
  refine Call_ (ld_blt I hg hm boot_range (callWith_type1 (thn (h.run pos pins s σ H _ I w) fun us s1 ⟨vs, H1, I1, r1, q1⟩ => ?_) hs hpl))
  obtain ⟨r, st, ds, lo, c, n, S, hd, e, q⟩ := q1
  unfold rg3 at e
  split at e
  · split at e
    · rename_i i j k hj
      cases e
      obtain ⟨v, v', v'', rfl, hv, hv', hv''⟩ := hd.three
      rw [hv.int_, hv'.int_, hv''.int_] at r1
      obtain ⟨c0, c1, c2, c3⟩ := hj
      cases r1 with
      | cons r rr =>
        cases rr with
        | cons r' rr =>
          cases rr with
          | cons r'' rr =>
            cases rr
            obtain ⟨t, rfl⟩ := r
            obtain ⟨t', rfl⟩ := r'
            obtain ⟨t'', rfl⟩ := r''
            exact call_range_3 c0 ⟨_, _, j, _, _, _, _, _, H1, rfl, IsRange.new _ _ _ _ _ _ _, c2, c3, I1.kept fun b u e => Heap.get?_push_of_some _ e, q⟩ (.inl (PyProof.noPylong_small c1))
    · cases e
  · cases e
def rgVc (lo c : Int) (n : Nat) : List V := (List.range n).map fun (i : Nat) => V.int (lo + i * c)
theorem vals_rgc {lo c : Int} {n : Nat} {acc : Array Value} (h : ItemsOf (fun i v => ∃ t, v = .int (lo + i * c) t) acc n) : Vals (rgVc lo c n) acc.toList := by
  have e : acc.toList.length = n := by rw [Array.length_toList]; exact h.1
  unfold rgVc
  rw [← e]
  exact vals_of_get acc.toList _ fun j u hj => h.2 j u (by rw [← hj, Array.getElem?_toList])
theorem rds_rgc {K : PySem.W.Frag} {r : Ad} {H : Hp} {lo c : Int} {n : Nat} : RDs K r H (rngC lo c n) (rgVc lo c n) := by
  unfold rngC rgVc
  induction List.range n with
  | nil => exact RDs.nil
  | cons i l ih => exact RDs.cons (by simp only [RD]) ih
theorem pe_tupRn {e : Expr} {t : L2.St → Hp → (Int → Int → Nat → Hp → Prop) → Prop} {p pos : Pos} (hc : X.calm = true) (hg : Gl X "tuple") (hm : X.mg "tuple" = none) (he : PRn X e t) (na : starEach [e] X.env = (false, eval e X.env) :: starEach [] X.env := by rfl) :
    PE X (.Call (.Name "tuple" p) [e] [] pos) (fun σ H Q => t σ H fun lo c n H1 => n ≤ 2 ^ 16 ∧ ∀ q, H1 q = none → Q (.ref q) (upd H1 q (.tup (rgVc lo c n)))) := by
  refine ⟨fun pins s σ H Q I h => ?_⟩
  refine Call_ (ld_blt I hg hm boot_tuple (callWith_type1 (args_cons (thn (he pins s σ H _ I h) fun x s1 ⟨r, a, b, c, n, t, u, v, H1, ex, hr, hs, hn, I1, ok, q⟩ => args_nil ?_) na) na))
  subst ex
  refine call_tuple_range (n := n) (I1.ok.hd hc) hr hs hn (by omega) fun h' tk acc hk hi => ?_
  have J : Inv X pins σ H1 { s1 with heap := h', toks := tk } := I1.kept hk
  have sz : (rgVc a c n).length ≤ sizeLine := by unfold rgVc; rw [List.length_map, List.length_range, sizeLine_eq]; omega
  exact ⟨.ref h'.objs.size, _, J.laid (o := .tup (rgVc a c n)) (t' := tk) (fun _ _ e => Heap.get?_push_of_some _ e) (Nat.le_refl _) ⟨sz, acc.toList, vals_rgc hi, by rw [Array.toArray_toList]; exact IsTup.new _ _⟩, rfl, q _ (J.hok.fresh (Nat.le_refl _))⟩
theorem pe_lstRn {e : Expr} {t : L2.St → Hp → (Int → Int → Nat → Hp → Prop) → Prop} {p pos : Pos} (hc : X.calm = true) (hg : Gl X "list") (hm : X.mg "list" = none) (he : PRn X e t) (na : starEach [e] X.env = (false, eval e X.env) :: starEach [] X.env := by rfl) :
    PE X (.Call (.Name "list" p) [e] [] pos) (fun σ H Q => t σ H fun lo c n H1 => n ≤ 2 ^ 16 ∧ ∀ q, H1 q = none → Q (.ref q) (upd H1 q (.lst (rgVc lo c n)))) := by
  refine ⟨fun pins s σ H Q I h => ?_⟩
  refine Call_ (ld_blt I hg hm boot_list (callWith_type1 (args_cons (thn (he pins s σ H _ I h) fun x s1 ⟨r, a, b, c, n, t, u, v, H1, ex, hr, hs, hn, I1, ok, q⟩ => args_nil ?_) na) na))
  subst ex
  refine call_list_range (n := n) (I1.ok.hd hc) hr hs hn (by omega) fun h' tk acc c' hk e' hi => ?_
  have sz : (rgVc a c n).length ≤ sizeLine := by unfold rgVc; rw [List.length_map, List.length_range, sizeLine_eq]; omega
  exact ⟨.ref s1.heap.objs.size, _, I1.laid (o := .lst (rgVc a c n)) hk (Nat.le_refl _) ⟨sz, acc.toList, c', vals_rgc hi, by rw [Array.toArray_toList]; exact e'⟩, rfl, q _ (I1.hok.fresh (Nat.le_refl _))⟩
def xTupR (f : FR) (m : M (List D)) : M D := xbnd m fun ds _ st => match f ds with
  | some (lo, c, n) => if n ≤ 2 ^ 16 then some (.ok (.tup (rngC lo c n)), st) else none
  | none => none
def fLstR (f : FR) (m : M (List D)) : M Ob := xbnd m fun ds _ st => match f ds with
  | some (lo, c, n) => if n ≤ 2 ^ 16 then some (.ok (.lst (rngC lo c n)), st) else none
  | none => none
theorem e_tupRn {e : Expr} {p pos : Pos} (hc : X.calm = true) (hg : Gl X "tuple") (hm : X.mg "tuple" = none) (he : PRn X e (tRn X.K EW f ms)) (na : starEach [e] X.env = (false, eval e X.env) :: starEach [] X.env := by rfl) : E X EW (.Call (.Name "tuple" p) [e] [] pos) (xTupR f ms) := by
  refine PE.weak (pe_tupRn hc hg hm he na) ?_
  rintro σ H Q ⟨r, e, st, out, st', S, hE, h, P⟩
  refine bnd_step S hE h P fun r1 H1 vs ds st1 S1 x1 hE1 hd h1 P1 => ?_
  dsimp only at h1
  split at h1
  · rename_i lo c n q
    split at h1
    · cases h1
      refine ⟨r1, _, ds, lo, c, n, S1, hd, q, by assumption, fun p hp => ?_⟩
      obtain ⟨S2, x2⟩ := S1.side (o := .tup (rgVc lo c n)) hp
      exact P1 r1 _ _ S2 x2 (by simp only [RD]; exact ⟨p, _, rfl, .of upd_same, rds_rgc⟩)
    · cases h1
  · cases h1
theorem f_lstRn {e : Expr} {p pos : Pos} (hc : X.calm = true) (hg : Gl X "list") (hm : X.mg "list" = none) (he : PRn X e (tRn X.K EW f ms)) (na : starEach [e] X.env = (false, eval e X.env) :: starEach [] X.env := by rfl) : EF X EW (.Call (.Name "list" p) [e] [] pos) (fLstR f ms) := by
  refine PE.weak (pe_lstRn hc hg hm he na) ?_
  rintro σ H Q ⟨r, e, st, out, st', S, hE, h, P⟩
  refine bnd_stepO S hE h P fun r1 H1 vs ds st1 S1 x1 hE1 hd h1 => ?_
  dsimp only at h1
  split at h1
  · rename_i lo c n q
    split at h1
    · cases h1
      exact ⟨r1, _, ds, lo, c, n, S1, hd, q, by assumption, fun p hp => P.lay S S1 x1 hp ⟨_, rfl, rds_rgc⟩⟩
    · cases h1
  · cases h1
end
end FW

set_option maxHeartbeats 4000000
namespace FW
open PySem L2

/-! ### stores: xs[i] = v, d[k] = v, xs[a:b] = ys -/
noncomputable def setIx (o i v : D) (st : Store) : Option Store := match mutL o st, i with
  | some (n, ds), .int k => match ixN ds.length k with
    | some j => some (st.set n (.lst (ds.set j v)))
    | none => none
  | some _, _ => none
  | none, i => match mutD o st with
    | some (n, ks, ds) => if (keyD i).isSome = true ∧ ks.length < sizeLine then some (st.set n (.dct (dPut ks ds i v).1 (dPut ks ds i v).2)) else none
    | none => none
def rSetAll : TSet := fun o i v H Q => rSetL o i v H Q ∨ rSetD o i v H Q
theorem PSet.or {X : Cx} {t t' : TSet} (h : PSet X t) (h' : PSet X t') : PSet X (fun o i v H Q => t o i v H Q ∨ t' o i v H Q) := fun pins s σ H o i v ov iv u Q I r1 r2 r3 q => q.elim (h pins s σ H o i v ov iv u Q I r1 r2 r3) (h' pins s σ H o i v ov iv u Q I r1 r2 r3)
theorem setIx_ok {K : PySem.W.Frag} {r : Ad} {H : Hp} {st st' : Store} {o i v : D} {x y w : V} {Q : Hp → Prop} (S : Sim K r H st) (ho : RD K r H o x) (hi : RD K r H i y) (hv : RD K r H v w) (h : setIx o i v st = some st')
    (P : ∀ H', Sim K r H' st' → Ext K r H r H' → Q H') : rSetAll x y w H Q := by
  unfold setIx at h
  split at h
  · rename_i n ds k e
    split at h
    · rename_i j e2
      cases h
      obtain ⟨a, vs, rfl, hn, s, t⟩ := mutL_ok S ho e
      obtain ⟨S2, x2⟩ := S.put (ob := .lst (ds.set j v)) (o := .lst (vs.set j w)) hn ⟨_, rfl, t.set hv j⟩
      exact .inl ⟨a, vs, k, j, rfl, hi.int_, s, by rw [← t.length]; exact e2, P _ S2 x2⟩
    · cases h
  · cases h
  · split at h
    · rename_i n ks ds e
      split at h
      · rename_i hk
        cases h
        obtain ⟨a, kvs, rfl, hn, s, k, t⟩ := mutD_ok S ho e
        obtain ⟨kk, ek⟩ := keyD_some hk.1
        obtain ⟨rfl, rfl⟩ := keyD_ok ek hi
        have hl := hk.2
        obtain ⟨g1, g2⟩ := dPut_ok (k := kk) hv t
        rw [← k] at g1 g2
        obtain ⟨S2, x2⟩ := S.put (ob := .dct (dPut ks ds (kD kk) v).1 (dPut ks ds (kD kk) v).2) (o := .dK (putK kvs kk w)) hn ⟨_, rfl, g1, g2⟩
        exact .inr ⟨a, _, rfl, DPut.k s (by rw [k, List.length_map] at hl; exact hl), P _ S2 x2⟩
      · cases h
    · cases h
noncomputable def gIx (mo mi : M D) : MG := fun d e st => match mo e st with
  | some (.ok o, st1) => match mi e st1 with
    | some (.ok i, st2) => (setIx o i d st2).map fun st3 => (e, st3)
    | _ => none
  | _ => none
def spliceD (ds ys : List D) (a c : Int) : List D := ds.take a.toNat ++ ys ++ ds.drop c.toNat
def isRef (v : D) (n : Nat) : Bool := match v with
  | .ref m => m == n
  | _ => false
def setSl (o : D) (a c : Int) (v : D) (st : Store) : Option Store := match mutL o st with
  | some (n, ds) => match lstOf v st with
    | some ys => if isRef v n = false ∧ 0 ≤ a ∧ a ≤ c ∧ c ≤ ds.length ∧ ds.length + ys.length ≤ sizeLine then some (st.set n (.lst (spliceD ds ys a c))) else none
    | none => none
  | none => none
theorem lst_ne {K : PySem.W.Frag} {r : Ad} {H : Hp} {st : Store} {v : D} {n : Nat} {a b : Addr} {ys : List D} (S : Sim K r H st) (hv : RD K r H v (.ref b)) (e : lstOf v st = some ys) (hn : r.r[n]? = some a) (h : isRef v n = false) : a ≠ b := by
  intro z
  subst z
  cases v with
  | ref m =>
    simp only [RD] at hv
    obtain ⟨a', h1, h2⟩ := hv
    cases h2
    have : m = n := ix_inj S.nd h1 hn
    subst this
    simp [isRef] at h
  | lst xs =>
    simp only [RD] at hv
    obtain ⟨a', vs, h1, s, n', q⟩ := hv
    cases h1
    exact n'.1 (List.mem_of_getElem? hn)
  | _ => cases e
theorem setSl_ok {K : PySem.W.Frag} {r : Ad} {H : Hp} {st st' : Store} {o v : D} {a c : Int} {x w : V} (S : Sim K r H st) (ho : RD K r H o x) (hv : RD K r H v w) (h : setSl o a c v st = some st') :
    ∃ l b xs ys, x = .ref l ∧ w = .ref b ∧ H l = some (.lst xs) ∧ H b = some (.lst ys) ∧ l ≠ b ∧ 0 ≤ a ∧ a ≤ c ∧ c ≤ xs.length ∧ xs.length + ys.length ≤ sizeLine ∧
      Sim K r (upd H l (.lst (xs.take a.toNat ++ ys ++ xs.drop c.toNat))) st' ∧ Ext K r H r (upd H l (.lst (xs.take a.toNat ++ ys ++ xs.drop c.toNat))) := by
  unfold setSl at h
  split at h
  · rename_i n ds e
    split at h
    · rename_i zs e2
      split at h
      · rename_i hh
        cases h
        obtain ⟨l, xs, rfl, hn, s, t⟩ := mutL_ok S ho e
        obtain ⟨b, ys, rfl, s2, t2⟩ := lstOf_ok S hv e2
        obtain ⟨h1, h2, h3, h4, h5⟩ := hh
        have ne := lst_ne S hv e2 hn h1
        obtain ⟨S2, x2⟩ := S.put (ob := .lst (spliceD ds zs a c)) (o := .lst (xs.take a.toNat ++ ys ++ xs.drop c.toNat)) hn ⟨_, rfl, ((t.take _).append t2).append (t.drop _)⟩
        exact ⟨l, b, xs, ys, rfl, rfl, s, s2, ne, h2, h3, by rw [← t.length]; exact h4, by rw [← t.length, ← t2.length]; exact h5, S2, x2⟩
      · cases h
    · cases h
  · cases h
/-- a bound of a slice that is stored to: all of it must be said -/
def gSl (mo ma mc : M D) : MG := fun d e st => match mo e st with
  | some (.ok o, st1) => match ma e st1 with
    | some (.ok (.int a), st2) => match mc e st2 with
      | some (.ok (.int c), st3) => (setSl o a c d st3).map fun st4 => (e, st4)
      | _ => none
    | _ => none
  | _ => none
section
variable {X : Cx} {EW : EWt}
theorem g_sub {o i : Expr} {pos : Pos} {mo mi : M D} (hu : X.A.units + 1 < cLine) (ho : E X noX o mo) (hi : E X noX i mi)
    (ha : ∀ v, assign (.Subscript o i pos) X.env v = (do
      let ov ← holding [v] (eval o X.env)
      let iv ← holding [v, ov] (eval i X.env)
      standAt pos
      holding [v, ov, iv] (setItem ov iv v)
      release [v, ov, iv] []) := by intro _; rfl) : G X [] (.Subscript o i pos) (gIx mo mi) := by
  refine PG.weak (pg_sub ho hi (PSet.or set_list (set_dict hu)) ha) ?_
  rintro v σ H Q ⟨r, e, st, d, e', st', S, hE, hd, h, P⟩
  unfold gIx at h
  split at h
  · rename_i o' st1 q1
    split at h
    · rename_i i' st2 q2
      cases q3 : setIx o' i' d st2 with
      | none => rw [q3] at h; cases h
      | some st3 =>
        rw [q3] at h
        cases h
        refine ⟨r, e, st, _, _, S, hE, q1, fun r1 H1 x S1 x1 hx => ⟨r1, e, st1, _, _, S1, hE.mono x1, q2, fun r2 H2 y S2 x2 hy => ?_⟩⟩
        have x12 := x1.trans' S S1 x2
        exact setIx_ok S2 (hx.mono x2) hy ((hd.mono x1).mono x2) q3 fun H3 S3 x3 => P r2 H3 σ S3 (x12.trans' S S2 x3) (hE.mono (x12.trans' S S2 x3)) (Off.refl _ _)
    · cases h
  · cases h
theorem g_slice {o lo hi : Expr} {p2 pos : Pos} {mo ma mc : M D} (ho : E X noX o mo) (hl : E X noX lo ma) (hh : E X noX hi mc)
    (ha : ∀ v, assign (.Subscript o (.Slice (some lo) (some hi) none p2) pos) X.env v = (do
      let ov ← holding [v] (eval o X.env)
      let iv ← holding [v, ov] (eval (.Slice (some lo) (some hi) none p2) X.env)
      standAt pos
      holding [v, ov, iv] (setItem ov iv v)
      release [iv, v, ov] []) := by intro _; rfl) : G X [] (.Subscript o (.Slice (some lo) (some hi) none p2) pos) (gSl mo ma mc) := by
  refine ⟨fun pins s σ H v u Q I rv w => ?_⟩
  obtain ⟨r, e, st, d, e', st', S, hE, hd, h, P⟩ := w
  unfold gSl at h
  split at h
  · rename_i o' st1 q1
    split at h
    · rename_i a st2 q2
      split at h
      · rename_i c st3 q3
        cases q4 : setSl o' a c d st3 with
        | none => rw [q4] at h; cases h
        | some st4 =>
          rw [q4] at h
          cases h
          have body : tE X.K noX mo σ H fun x H1 => tE X.K noX ma σ H1 fun y H2 => tE X.K noX mc σ H2 fun z H3 => ∃ l b xs ys, x = .ref l ∧ v = .ref b ∧ y = .int a ∧ z = .int c ∧ H3 l = some (.lst xs) ∧ H3 b = some (.lst ys) ∧ l ≠ b ∧ 0 ≤ a ∧ a ≤ c ∧ c ≤ xs.length ∧ xs.length + ys.length ≤ sizeLine ∧ Q σ (upd H3 l (.lst (xs.take a.toNat ++ ys ++ xs.drop c.toNat))) := by
            refine ⟨r, e, st, _, _, S, hE, q1, fun r1 H1 x S1 x1 hx => ⟨r1, e, st1, _, _, S1, hE.mono x1, q2, fun r2 H2 y S2 x2 hy => ⟨r2, e, st2, _, _, S2, (hE.mono x1).mono x2, q3, fun r3 H3 z S3 x3 hz => ?_⟩⟩⟩
            have x12 := x1.trans' S S1 x2
            have x13 := x12.trans' S S2 x3
            obtain ⟨l, b, xs, ys, e1, e2, e3, e4, e5, e6, e7, e8, e9, S4, x4⟩ := setSl_ok S3 ((hx.mono x2).mono x3) (hd.mono x13) q4
            exact ⟨l, b, xs, ys, e1, e2, hy.int_, hz.int_, e3, e4, e5, e6, e7, e8, e9, P r3 _ σ S4 (x13.trans' S S3 x4) (hE.mono (x13.trans' S S3 x4)) (Off.refl _ _)⟩
          rw [ha]
          refine wpAny_bind (wpAny_holding (thn (ho.run pins s σ H _ I body) fun ov s1 ⟨x, H1, I1, r1, b1⟩ => ?_))
          refine wpAny_bind (wpAny_holding (wpAny_Slice (thn (hl.run pins s1 σ H1 _ I1 b1) fun lv s2 ⟨y, H2, I2, r2, b2⟩ => thn (hh.run pins s2 σ H2 _ I2 b2) fun uv s3 ⟨z, H3, I3, r3, b3⟩ => ?_)))
          rw [evalPart_none]
          refine wpAny_pure ?_
          obtain ⟨l, b, xs, ys, rfl, rfl, rfl, rfl, e3, e4, e5, e6, e7, e8, e9, fin⟩ := b3
          cases r1
          cases rv
          have J : Inv X pins σ H3 { s3 with heap := s3.heap.push { cls := .type "slice", data := .fields #[lv, uv, .none] } } := I3.kept (t' := s3.toks) fun b ob q => Heap.get?_push_of_some _ q
          refine wpAny_bind (wpAny_standAt (wpAny_bind (wpAny_holding (set_slice J e3 e4 e5 (Heap.IsSliceOf.new ..) r2 r3 e6 e7 e8 e9 fun s4 I4 => ?_))))
          exact wpAny_release ⟨σ, _, I4, fin⟩
      · cases h
    · cases h
  · cases h
end
/-! ### o op= e -/
def rIpI (f : Int → Int → Int) : V → V → Hp → VK → Prop := ipI f
def fIp (f : Int → Int → Int) : F2 := fun x y st => match x, y with
  | .int i, .int j => some (.int (f i j), st)
  | _, _ => none
theorem fIp_ok {K : PySem.W.Frag} {f : Int → Int → Int} : OpS K (ipI f) (fIp f) := by
  intro r H st d c x y z st' Q S hd hc h P
  unfold fIp at h
  split at h
  · cases h
    exact ⟨_, _, hd.int_, hc.int_, P.int S⟩
  · cases h
def sAug (i : Nat) (f : F2) (m : M D) : MS := fun e st => match e[i]? with
  | some (some x) => bndS (m e st) e fun y st1 => (f x y st1).map fun p => (.nx (e.set i (some p.1)), p.2)
  | _ => none
section
variable {X : Cx} {EW : EWt}
theorem s_aug (i : Nat) {x : Str} {a : Expr} {op : Operator} {ti : TIp} {f : F2} {pos' pos : Pos} {m : M D} (hN : X.N.Nodup) (ho : PIp X op ti) (hf : OpS X.K ti f) (ha : E X EW a m) (hi : X.N[i]? = some x := by rfl)
    (hx : Loc X.env.scope x := by first | exact Or.inl rfl | exact Or.inr rfl) (hf' : X.fn x = true ∨ X.env.scope.names.lookup x = some .local := by first | exact .inl rfl | exact .inr rfl) : S_ X EW (.AugAssign (.Name x pos') op a pos) (sAug i f m) := by
  refine PS.weak (ps_aug hN hi hx ha ho hf') ?_
  rintro D σ H ⟨r, e, st, out, st', S, hE, h, P⟩
  unfold sAug at h
  split at h
  · rename_i d q
    obtain ⟨v, h1, h2⟩ := hE.at' i d q
    refine ⟨v, h1, bndS_step S hE h P fun r1 H1 y c st1 S1 x1 hE1 hc h3 P1 => ?_⟩
    cases q2 : f d c st1 with
    | none => rw [q2] at h3; cases h3
    | some p =>
      obtain ⟨z, st2⟩ := p
      rw [q2] at h3
      cases h3
      exact hf r1 H1 st1 d c v y z _ _ S1 (h2.mono x1) hc q2 fun r2 H2 w S2 x2 hw => P1 r2 H2 _ S2 x2 ((hE1.mono x2).set hw)
  · cases h
end
end FW

set_option maxHeartbeats 4000000
namespace FW
open PySem L2

/-! ### o[i] op= e -/
section
variable {X : Cx} {EW : EWt}
open PyProof.Rows in
theorem get_list : PGet X (rIxL X.K) := by
  intro pins s σ H o i ov iv Q I ro ri h
  obtain ⟨p, xs, k, z, rfl, rfl, hq, he, q⟩ := h
  cases ro
  obtain ⟨t, rfl⟩ := ri
  obtain ⟨its, r, pl, hz⟩ := I.list hq
  obtain ⟨j, h1, h2, h3, h4, h5⟩ := atI_get he
  obtain ⟨w, ew, rw'⟩ := r.get h2
  have hl := r.length
  have hn := line63
  have fin : EP X pins σ Q w s := ⟨z, H, I, rw', q⟩
  rcases Int.lt_or_le k 0 with h0 | h0
  · have hj : (k + (its.toArray.size : Int)).toNat = j := by
      rw [seqIndex_neg h0 h4] at h1
      rw [List.size_toArray, ← hl]
      exact Option.some.inj h1
    exact wpAny_getItem_list_neg pl.isList h0 (by rw [List.size_toArray] <;> omega) (by omega) (by rw [hj]; simpa using ew) fin
  · have hj : k.toNat = j := by
      rw [seqIndex_of h0 h5] at h1
      exact Option.some.inj h1
    exact wpAny_getItem_list pl.isList h0 (by omega) (by rw [hj]; simpa using ew) fin
def rGetD : V → V → Hp → VK → Prop := fun o i H Q => ∃ a v, o = .ref a ∧ DGet H a i (some v) ∧ Q v H
theorem get_dict (hu : X.A.units + 1 < cLine) : PGet X rGetD := by
  intro pins s σ H o i ov iv Q I ro ri h
  obtain ⟨a, v, rfl, g, q⟩ := h
  cases ro
  exact d_getItem hu I g ri fun w s' I' rw' => ⟨v, H, I', rw', q⟩
theorem PGet.or {t t' : V → V → Hp → VK → Prop} (h : PGet X t) (h' : PGet X t') : PGet X (fun o i H Q => t o i H Q ∨ t' o i H Q) := fun pins s σ H o i ov iv Q I r1 r2 q => q.elim (h pins s σ H o i ov iv Q I r1 r2) (h' pins s σ H o i ov iv Q I r1 r2)
end
noncomputable def oGetM : F2 := fun x i st => match mutL x st, i with
  | some (n, ds), .int k => match atI ds k with
    | some d => some (d, st)
    | none => none
  | some _, _ => none
  | none, i => match mutD x st with
    | some (n, ks, ds) => if (keyD i).isSome = true then (match dGet ks ds i with
      | some d => some (d, st)
      | none => none) else none
    | none => none
def rGetAll (K : PySem.W.Frag) : V → V → Hp → VK → Prop := fun o i H Q => rIxL K o i H Q ∨ rGetD o i H Q
theorem oGetM_ok {K : PySem.W.Frag} : OpS K (rGetAll K) oGetM := by
  intro r H st d c x y z st' Q S hd hc h P
  unfold oGetM at h
  split at h
  · rename_i n ds k e
    split at h
    · rename_i w e2
      cases h
      obtain ⟨a, vs, rfl, hn, s, t⟩ := mutL_ok S hd e
      obtain ⟨v, h1, h2⟩ := t.atI e2
      exact .inl ⟨a, vs, k, v, rfl, hc.int_, .of s, h1, P.here S h2⟩
    · cases h
  · cases h
  · split at h
    · rename_i n ks ds e
      split at h
      · rename_i hk
        split at h
        · rename_i w e2
          cases h
          obtain ⟨a, kvs, rfl, hn, s, k, t⟩ := mutD_ok S hd e
          obtain ⟨kk, ek⟩ := keyD_some hk
          obtain ⟨rfl, rfl⟩ := keyD_ok ek hc
          have g := dGet_ok (k := kk) t
          rw [← k, e2] at g
          obtain ⟨v, g1, g2⟩ := g
          exact .inr ⟨a, v, rfl, by rw [← g1]; exact DGet.k s, P.here S g2⟩
        · cases h
      · cases h
    · cases h
noncomputable def sAugS (f : F2) (mo mi m : M D) : MS := fun e st => bndS (mo e st) e fun o st1 => bndS (mi e st1) e fun i st2 => match oGetM o i st2 with
  | some (x, st3) => bndS (m e st3) e fun y st4 => match f x y st4 with
    | some (z, st5) => (setIx o i z st5).map fun st6 => (.nx e, st6)
    | none => none
  | none => none
section
variable {X : Cx} {EW : EWt}
theorem s_augS {o i a : Expr} {op : Operator} {ti : TIp} {f : F2} {tpos pos : Pos} {mo mi m : M D} (hu : X.A.units + 1 < cLine) (ho : E X EW o mo) (hi : E X EW i mi) (hop : PIp X op ti) (hf : OpS X.K ti f) (ha : E X EW a m)
    (hs : ∀ ov iv new, augStore i ov iv new = (do holding [new, ov, iv] (setItem ov iv new); release [new, ov, iv] []; pure .next) := by intros; rfl) : S_ X EW (.AugAssign (.Subscript o i tpos) op a pos) (sAugS f mo mi m) := by
  refine PS.weak (ps_augS ho hi (PGet.or get_list (get_dict hu)) ha hop (PSet.or set_list (set_dict hu)) hs) ?_
  rintro D σ H ⟨r, e, st, out, st', S, hE, h, P⟩
  refine bndS_step S hE h P fun r1 H1 x d st1 S1 x1 hE1 hd h1 P1 => bndS_step S1 hE1 h1 P1 fun r2 H2 y c st2 S2 x2 hE2 hc h2 P2 => ?_
  cases q : oGetM d c st2 with
  | none => rw [q] at h2; cases h2
  | some p =>
    obtain ⟨g, st3⟩ := p
    rw [q] at h2
    have hd2 := hd.mono x2
    refine oGetM_ok r2 H2 st2 d c x y g st3 _ S2 hd2 hc q fun r3 H3 w S3 x3 hw => ?_
    have P3 := P2.later S2 S3 x3
    refine bndS_step S3 (hE2.mono x3) h2 P3 fun r4 H4 u b st4 S4 x4 hE4 hb h4 P4 => ?_
    cases q2 : f g b st4 with
    | none => rw [q2] at h4; cases h4
    | some p =>
      obtain ⟨z, st5⟩ := p
      rw [q2] at h4
      refine hf r4 H4 st4 g b w u z st5 _ S4 (hw.mono x4) hb q2 fun r5 H5 k S5 x5 hk => ?_
      have P5 := P4.later S4 S5 x5
      cases q3 : setIx d c z st5 with
      | none => dsimp only at h4; rw [q3] at h4; cases h4
      | some st6 =>
        dsimp only at h4
        rw [q3] at h4
        cases h4
        exact setIx_ok S5 (((hd2.mono x3).mono x4).mono x5) (((hc.mono x3).mono x4).mono x5) hk q3 fun H6 S6 x6 => P5 r5 H6 _ S6 x6 ((hE4.mono x5).mono x6)
/-! ### a, b = e1, e2 -/
def sPar (is : List Nat) (m : M (List D)) : MS := fun e st => bndS (m e st) e fun ds st1 => if ds.length = is.length then some (.nx ((is.zip ds).foldl (fun e p => e.set p.1 (some p.2)) e), st1) else none
theorem s_par (i j : Nat) {x y : Str} {a b : Expr} {px py pt pos : Pos} {kt k2 pt2} {m : M (List D)} (hc : X.calm = true) (hN : X.N.Nodup) (ha : As X EW [a, b] m) (hi : X.N[i]? = some x := by rfl) (hj : X.N[j]? = some y := by rfl) (hij : i ≠ j := by decide)
    (hx : X.env.scope.names.lookup x = some .local := by rfl) (hy : X.env.scope.names.lookup y = some .local := by rfl)
    (hw : swappedStores [.Tuple [.Name x px, .Name y py] kt pt] (.Tuple [a, b] k2 pt2) X.env = pure (some [x, y]) := by rfl)
    (hs : swapsWithSole [.Tuple [.Name x px, .Name y py] kt pt] (.Tuple [a, b] k2 pt2) pos.line X.env = pure false := by rfl) : S_ X EW (.Assign [.Tuple [.Name x px, .Name y py] kt pt] (.Tuple [a, b] k2 pt2) pos) (sPar [i, j] m) := by
  refine PS.weak (ps_par hc hN hi hj hij hx hy ha hw hs) ?_
  rintro D σ H ⟨r, e, st, out, st', S, hE, h, P⟩
  refine bndS_step S hE h P fun r1 H1 vs ds st1 S1 x1 hE1 hd h1 P1 => ?_
  split at h1
  · rename_i hl
    match ds, hl, hd, h1 with
    | [d, c], _, hd, h1 =>
      cases h1
      obtain ⟨v, w, rfl, hv, hw⟩ := hd.two
      exact ⟨v, w, rfl, P1 r1 H1 _ S1 (Ext.refl _ _ _) ((hE1.set hv).set hw)⟩
  · cases h1
theorem s_par3 (i j l : Nat) {x y z : Str} {a b c : Expr} {px py pz pt pos : Pos} {kt k2 pt2} {m : M (List D)} (hc : X.calm = true) (hN : X.N.Nodup) (ha : As X EW [a, b, c] m) (hi : X.N[i]? = some x := by rfl) (hj : X.N[j]? = some y := by rfl) (hl : X.N[l]? = some z := by rfl) (hij : i ≠ j := by decide) (hil : i ≠ l := by decide) (hjl : j ≠ l := by decide)
    (hx : X.env.scope.names.lookup x = some .local := by rfl) (hy : X.env.scope.names.lookup y = some .local := by rfl) (hz : X.env.scope.names.lookup z = some .local := by rfl)
    (hw : swappedStores [.Tuple [.Name x px, .Name y py, .Name z pz] kt pt] (.Tuple [a, b, c] k2 pt2) X.env = pure (some [x, y, z]) := by rfl)
    (hs : swapsWithSole [.Tuple [.Name x px, .Name y py, .Name z pz] kt pt] (.Tuple [a, b, c] k2 pt2) pos.line X.env = pure false := by rfl) : S_ X EW (.Assign [.Tuple [.Name x px, .Name y py, .Name z pz] kt pt] (.Tuple [a, b, c] k2 pt2) pos) (sPar [i, j, l] m) := by
  refine PS.weak (ps_par3 hc hN hi hj hl hij hil hjl hx hy hz ha hw hs) ?_
  rintro D σ H ⟨r, e, st, out, st', S, hE, h, P⟩
  refine bndS_step S hE h P fun r1 H1 vs ds st1 S1 x1 hE1 hd h1 P1 => ?_
  split at h1
  · rename_i hl
    match ds, hl, hd, h1 with
    | [d, c, b], _, hd, h1 =>
      cases h1
      obtain ⟨v, w, u, rfl, hv, hw, hu⟩ := hd.three
      exact ⟨v, w, u, rfl, P1 r1 H1 _ S1 (Ext.refl _ _ _) (((hE1.set hv).set hw).set hu)⟩
  · cases h1
/-! ### displays with stars; {} -/
def aStar (a : M D) (as : M (List D)) : M (List D) := xbnd a fun d e st => match seqOf d st with
  | some ds => bnd (as e st) fun cs st1 => some (.ok (ds ++ cs), st1)
  | none => none
theorem a_star {a : Expr} {es : List Expr} {p : Pos} {ma : M D} {ms : M (List D)} (ha : E X EW a ma) (hs : As X EW es ms) (hst : starEach (.Starred a p :: es) X.env = (true, eval a X.env) :: starEach es X.env := by rfl) : As X EW (.Starred a p :: es) (aStar ma ms) := by
  refine PA.weak (StX.pa_star ha hs hst) ?_
  rintro σ H Q ⟨r, e, st, out, st', S, hE, h, P⟩
  refine bnd_step S hE h P fun r1 H1 x d st1 S1 x1 hE1 hd h1 P1 => ?_
  dsimp only at h1
  split at h1
  · rename_i ds q
    obtain ⟨a, vs, rfl, s, t⟩ := seqOf_ok S1 hd q
    refine ⟨a, vs, rfl, s.symm, bnd_step S1 hE1 h1 P1 fun r2 H2 ys cs st2 S2 x2 hE2 hc h2 P2 => ?_⟩
    cases h2
    exact P2 r2 H2 _ S2 (Ext.refl _ _ _) ((t.mono x2).append hc)
  · cases h1
def fDct0 : M Ob := fun _ st => some (.ok (.dct [] []), st)
theorem f_dct0 {pos : Pos} : EF X EW (.Dict [] [] pos) fDct0 := by
  refine PE.weak pe_dnewK ?_
  rintro σ H Q ⟨r, e, st, out, st', S, hE, h, P⟩
  cases h
  exact fun p hp => P.lay S S (Ext.refl _ _ _) hp ⟨[], rfl, rfl, RDs.nil⟩
end
end FW

set_option maxHeartbeats 4000000
namespace FW
open PySem L2

abbrev oLeA : F2 := oCmp (fun i j => decide (i ≤ j)) (fun a b => !decide (b < a))
abbrev oGeA : F2 := oCmp (fun i j => decide (j ≤ i)) (fun a b => !decide (a < b))
/-- ==: of texts, of data -/
noncomputable def oEqA : F2 := fun x y st => match x, y with
  | .str a, .str b => some (.bl (decide (a = b)), st)
  | x, y => oEq x y st
def rEqAll (K : PySem.W.Frag) : R2 := fun x y H Q => rEq x y H Q ∨ rEqD K x y H Q
theorem op_eqAll {X : Cx} (hu : X.A.units + 64 < cLine) : OpR X (compareOp .Eq) (rEqAll X.K) := OpR.or op_eq (op_eqD hu)
theorem oEqA_ok {K : PySem.W.Frag} : OpS K (rEqAll K) oEqA := by
  intro r H st d c x y z st' Q S hd hc h P
  unfold oEqA at h
  split at h
  · rename_i a b
    cases h
    rw [hd.str_, hc.str_]
    refine .inl ⟨rfl, ?_⟩
    rw [show decide (V.str a = V.str b) = decide (a = b) from decide_eq_decide.mpr ⟨fun h => by cases h; rfl, fun h => by rw [h]⟩]
    exact P.bl S
  · exact .inr (oEq_ok r H st d c x y z st' Q S hd hc h P)
/-- !=: of texts, of data -/
noncomputable def oNeA : F2 := fun x y st => match x, y with
  | .str a, .str b => some (.bl (!decide (a = b)), st)
  | x, y => oNe x y st
def rNeAll (K : PySem.W.Frag) : R2 := fun x y H Q => rNe x y H Q ∨ rNeD K x y H Q
theorem op_neAll {X : Cx} (hu : X.A.units + 64 < cLine) : OpR X (compareOp .NotEq) (rNeAll X.K) := OpR.or op_ne (op_neD hu)
theorem oNeA_ok {K : PySem.W.Frag} : OpS K (rNeAll K) oNeA := by
  intro r H st d c x y z st' Q S hd hc h P
  unfold oNeA at h
  split at h
  · rename_i a b
    cases h
    rw [hd.str_, hc.str_]
    refine .inl ⟨rfl, ?_⟩
    rw [show decide (V.str a = V.str b) = decide (a = b) from decide_eq_decide.mpr ⟨fun h => by cases h; rfl, fun h => by rw [h]⟩]
    exact P.bl S
  · exact .inr (oNe_ok r H st d c x y z st' Q S hd hc h P)
/-! ### an operator that makes a list -/
abbrev Fo2 := D → D → Store → Option Ob
def f2 (f : Fo2) (a b : M D) : M Ob := xbnd a fun d => xbnd b fun c _ st => match f d c st with
  | some ob => some (.ok ob, st)
  | none => none
def Fo2S (K : PySem.W.Frag) (rr : R2) (f : Fo2) : Prop := ∀ r H st d c x y ob Q,
  Sim K r H st → RD K r H d x → RD K r H c y → f d c st = some ob → (∀ p o, H p = none → RO K r H ob (some o) → Q (.ref p) (upd H p o)) → rr x y H Q
theorem f_op {X : Cx} {EW : EWt} {a b : Expr} {op : Operator} {pos : Pos} {rr : R2} {f : Fo2} {ma mb : M D} (ho : OpR X (binaryOp op) rr) (hf : Fo2S X.K rr f) (ha : E X EW a ma) (hb : E X EW b mb) : EF X EW (.BinOp a op b pos) (f2 f ma mb) := by
  refine PE.weak (pe_op ho ha hb) ?_
  rintro σ H Q ⟨r, e, st, out, st', S, hE, h, P⟩
  refine bnd_stepO S hE h P fun r1 H1 x d st1 S1 x1 hE1 hd h1 => ?_
  have P1 := P.later S S1 x1
  refine bnd_stepO S1 hE1 h1 P1 fun r2 H2 y c st2 S2 x2 hE2 hc h2 => ?_
  have P2 := P1.later S1 S2 x2
  dsimp only at h2
  cases q : f d c st2 with
  | none => rw [q] at h2; cases h2
  | some ob =>
    rw [q] at h2
    cases h2
    exact hf r2 H2 _ d c x y ob Q S2 (hd.mono x2) hc q fun p o hp k => P2.lay S2 S2 (Ext.refl _ _ _) hp k
def pRep : Fo2 := fun x y st => match y with
  | .int k => match lstOf x st with
    | some a => if -(2 ^ 63) ≤ k ∧ k < 2 ^ 63 ∧ a.length * k.toNat ≤ sizeLine then some (.lst (List.replicate k.toNat a).flatten) else none
    | none => none
  | _ => none
theorem pRep_ok {K : PySem.W.Frag} : Fo2S K rRep pRep := by
  intro r H st d c x y ob Q S hd hc h P
  unfold pRep at h
  split at h
  · split at h
    · rename_i q1
      split at h
      · rename_i hh
        obtain ⟨h1, h2, h3⟩ := hh
        cases h
        rw [hc.int_]
        obtain ⟨a, vs, rfl, s, t⟩ := lstOf_ok S hd q1
        exact ⟨a, _, vs, rfl, rfl, s, h1, h2, by rw [← t.length]; exact h3, fun p hp => P p _ hp ⟨_, rfl, t.rep _⟩⟩
      · cases h
    · cases h
  · cases h
def pCat : Fo2 := fun x y st => match lstOf x st, lstOf y st with
  | some a, some b => if a.length + b.length ≤ sizeLine then some (.lst (a ++ b)) else none
  | _, _ => none
theorem pCat_ok {K : PySem.W.Frag} : Fo2S K rCat pCat := by
  intro r H st d c x y ob Q S hd hc h P
  unfold pCat at h
  split at h
  · rename_i q1 q2
    split at h
    · rename_i hl
      cases h
      obtain ⟨a, vs, rfl, s, t⟩ := lstOf_ok S hd q1
      obtain ⟨b, ws, rfl, s2, t2⟩ := lstOf_ok S hc q2
      exact ⟨a, b, vs, ws, rfl, rfl, s, s2, by rw [← t.length, ← t2.length]; exact hl, fun p hp => P p _ hp ⟨_, rfl, t.append t2⟩⟩
    · cases h
  · cases h
end FW

set_option maxHeartbeats 4000000
namespace FW
open PySem PySem.Spec L2

/-! ### from a def's datum to its promise -/
abbrev FnP (K : PySem.W.Frag) (x : Str) (st : Stmt) (f : Addr) (fd : FuncData) : Prop := FunD K x x (defArgs st) (defBody st) (defScope st) [] [] f fd
theorem fun_of {K : PySem.W.Frag} {x : Str} {st : Stmt} {f : Addr} {fd : FuncData} (F : FnP K x st f fd) : Fun K x x st f fd := by
  obtain ⟨oc, od, dV, kV, doc, pm, an, cdv, ct, osl, h1, lk, hcd, hD, _⟩ := F.ex
  rcases hD with ⟨_, rfl⟩ | ⟨e, _⟩
  · exact ⟨⟨oc, od, kV, doc, pm, an, cdv, ct, osl, h1, lk, hcd⟩, F.kp⟩
  · exact absurd rfl e
def ClG (P : Program) (w : World) (K : PySem.W.Frag) (mg : Str → Option Value) (base : Heap) (k : Nat) (x : Str) (n : Nat) (F : Fn0) : Prop :=
  ∃ (f : Addr) (fd : FuncData) (ps : List Str), FnG P w K mg base CX0 k f fd ps (spF K n F) ∧ mg x = some (.ref f) ∧ PySem.W.keepIn K (.ref f) = true ∧ Binds K fd ps []
section
variable {P : Program} {w : World} {K : PySem.W.Frag} {mg : Str → Option Value} {base : Heap}
theorem u1 {j : Nat} {A : Around} (h : Room j A) : A.units + 1 < cLine := by have := h.un; omega
theorem u64 {j : Nat} {A : Around} (h : Room j A) : A.units + 64 < cLine := by have := h.un; omega
theorem u66 {j : Nat} {A : Around} (h : Room j A) : A.units + 66 < cLine := by have := h.un; omega
/-- what the body is worth | what is told of it -/
def Tell (n : Nat) (F G : Fn0) : Prop := ∀ ds st d st', Lts st.length ds → Wf st → ds.length = n → G ds st = some (d, st') → ∃ d1 st1, F ds st = some (d1, st1) ∧ Cut st1 st.length st' ∧ Fz st1 st.length d1 d
theorem cl_tell {k n : Nat} {x : Str} {F G : Fn0} (h : ClG P w K mg base k x n F) (t : Tell n F G) : ClG P w K mg base k x n G := by
  obtain ⟨f, fd, ps, h1, h2, h3, h4⟩ := h
  exact ⟨f, fd, ps, fn_tell h1 t, h2, h3, h4⟩
/-- told as it is, at some arguments alone -/
theorem cl_imp {k n : Nat} {x : Str} {F G : Fn0} (h : ClG P w K mg base k x n F) (t : ∀ ds st d st', Lts st.length ds → Wf st → ds.length = n → G ds st = some (d, st') → F ds st = some (d, st')) : ClG P w K mg base k x n G := by
  obtain ⟨f, fd, ps, h1, h2, h3, h4⟩ := h
  refine ⟨f, fd, ps, fn_imp h1 fun r H st ds vs d st' Q S hd hl hG P => ?_, h2, h3, h4⟩
  have lt := hd.lt
  rw [S.len] at lt
  exact ⟨d, st', t ds st d st' lt S.wf hl hG, P⟩
theorem cl_of {k n : Nat} {x : Str} {st : Stmt} {f : Addr} {fd : FuncData} {ps : List Str} {F : Fn0} (D : FnP K x st f fd) (gm : mg x = some (.ref f)) (h : FnG P w K mg base CX0 k f fd ps (spF K n F))
    (b : ∀ (kV doc pm : Value) (an : Option Addr) (cdv ct : Value) (us : List Value), us.length = ps.length → bindArgs (PySem.W.fnOf x x (defArgs st) (defBody st) (defScope st) .none kV doc pm an cdv ct) ⟨us, []⟩ = pure (ps.zip us)) : ClG P w K mg base k x n F :=
  ⟨f, fd, ps, h, gm, D.kp, D.bindsN b⟩
end
end FW

set_option maxHeartbeats 4000000
namespace FW
open PySem L2

/-! ### mirrors, worked out -/
section
variable {α β : Type} {e : Env} {st : Store}
@[simp] theorem ev_bnd_ok {a : α} {k : α → Store → Option (Res β × Store)} : bnd (some (.ok a, st)) k = k a st := id rfl
@[simp] theorem ev_bndS_ok {a : α} {k : α → Store → Option (SR × Store)} : bndS (some (.ok a, st)) e k = k a st := id rfl
@[simp] theorem ev_ok0 {a : α} : ok0 (some (a, st)) = some (.ok a, st) := id rfl
@[simp] theorem ev_xbnd {m : M α} {k : α → M β} : xbnd m k e st = bnd (m e st) fun a st1 => k a e st1 := id rfl
@[simp] theorem ev_xC {d : D} : xC d e st = some (.ok d, st) := id rfl
@[simp] theorem ev_x1 {f : F1} {a : M D} : x1 f a e st = bnd (a e st) fun d st1 => ok0 (f d st1) := id rfl
@[simp] theorem ev_x2 {f : F2} {a b : M D} : x2 f a b e st = bnd (a e st) fun d st1 => bnd (b e st1) fun c st2 => ok0 (f d c st2) := id rfl
@[simp] theorem ev_aN : aN e st = some (.ok [], st) := id rfl
@[simp] theorem ev_aC {a : M D} {as : M (List D)} : aC a as e st = bnd (a e st) fun d st1 => bnd (as e st1) fun ds st2 => some (.ok (d :: ds), st2) := id rfl
@[simp] theorem ev_xN {F : Fn0} {as : M (List D)} : xN F as e st = bnd (as e st) fun ds st1 => ok0 (F ds st1) := id rfl
@[simp] theorem ev_xCl {n : Nat} {F : Fn0} {as : M (List D)} : xCl n F as e st = bnd (as e st) fun ds st1 => ok0 (if ds.length = n then F ds st1 else none) := id rfl
@[simp] theorem ev_xTup {as : M (List D)} : xTup as e st = bnd (as e st) fun ds st1 => if ds.length ≤ sizeLine then some (.ok (.tup ds), st1) else none := id rfl
@[simp] theorem ev_xLst {as : M (List D)} : xLst as e st = bnd (as e st) fun ds st1 => if ds.length ≤ sizeLine then some (.ok (.lst ds), st1) else none := id rfl
@[simp] theorem ev_xNew {a : M Ob} : xNew a e st = bnd (a e st) fun o st1 => some (.ok (.ref st1.length), st1 ++ [o]) := id rfl
@[simp] theorem ev_xVal {a : M Ob} : xVal a e st = bnd (a e st) fun o st1 => match o with
  | .lst ds => some (.ok (.lst ds), st1)
  | .dct ks ds => some (.ok (.dct ks ds), st1)
  | .flst _ => none := id rfl
@[simp] theorem ev_xV {i : Nat} {d : D} (h : e[i]? = some (some d)) : xV i e st = some (.ok d, st) := by unfold xV; rw [h]
@[simp] theorem ev_fCall {F : Fo0} {as : M (List D)} : fCall F as e st = bnd (as e st) fun ds st1 => match F ds st1 with
  | some ob => some (.ok ob, st1)
  | none => none := id rfl
@[simp] theorem ev_fDct0 : fDct0 e st = some (.ok (.dct [] []), st) := id rfl
@[simp] theorem ev_f2 {f : Fo2} {a b : M D} : f2 f a b e st = bnd (a e st) fun d st1 => bnd (b e st1) fun c st2 => match f d c st2 with
  | some ob => some (.ok ob, st2)
  | none => none := id rfl
@[simp] theorem ev_xMeth {T : Ty} {f : FM} {o : M D} {as : M (List D)} : xMeth T f o as e st = bnd (o e st) fun d st1 => if tyD T d st1 = true then bnd (as e st1) fun ds st2 => ok0 (f d ds st2) else none := id rfl
@[simp] theorem ev_pN : pN e st = some (.ok none, st) := id rfl
@[simp] theorem ev_pS {m : M D} : pS m e st = bnd (m e st) fun d st1 => match d with
  | .int i => some (.ok (some i), st1)
  | _ => none := id rfl
@[simp] theorem ev_xSl {f : FSl} {a : M D} {lo hi : M (Option Int)} : xSl f a lo hi e st = bnd (a e st) fun d st1 => bnd (lo e st1) fun l st2 => bnd (hi e st2) fun u st3 => ok0 (f d l u st3) := id rfl
@[simp] theorem ev_aStar {a : M D} {as : M (List D)} : aStar a as e st = bnd (a e st) fun d st1 => match seqOf d st1 with
  | some ds => bnd (as e st1) fun cs st2 => some (.ok (ds ++ cs), st2)
  | none => none := id rfl
@[simp] theorem ev_xTupR {f : FR} {m : M (List D)} : xTupR f m e st = bnd (m e st) fun ds st1 => match f ds with
  | some (lo, c, n) => if n ≤ 2 ^ 16 then some (.ok (.tup (rngC lo c n)), st1) else none
  | none => none := id rfl
@[simp] theorem ev_iOf {f : FI} {m : M (List D)} : iOf f m e st = bnd (m e st) fun ds st1 => match f ds st1 with
  | some i => some (.ok i, st1)
  | none => none := id rfl
@[simp] theorem ev_iSeq {m : M D} : iSeq m e st = bnd (m e st) fun d st1 => match itV d st1 with
  | some i => some (.ok i, st1)
  | none => none := id rfl
@[simp] theorem ev_xTst {m : M D} : xTst m e st = bnd (m e st) fun d st1 => match d with
  | .bl b => some (.ok b, st1)
  | _ => none := id rfl
@[simp] theorem ev_xYes : xYes e st = some (.ok true, st) := id rfl
@[simp] theorem ev_sNil : sNil e st = some (.nx e, st) := id rfl
@[simp] theorem ev_sEx {m : M D} : sEx m e st = bndS (m e st) e fun _ st1 => some (.nx e, st1) := id rfl
@[simp] theorem ev_sRet {m : M D} : sRet m e st = bndS (m e st) e fun d st1 => some (.rt d, st1) := id rfl
@[simp] theorem ev_sIf {t : M Bool} {a b : MS} : sIf t a b e st = bndS (t e st) e fun c st1 => if c = true then a e st1 else b e st1 := id rfl
@[simp] theorem ev_sAsg {m : M D} {g : MG} : sAsg m g e st = bndS (m e st) e fun d st1 => (g d e st1).map fun p => (.nx p.1, p.2) := id rfl
@[simp] theorem ev_gN {i : Nat} {d : D} : gN i d e st = some (e.set i (some d), st) := id rfl
@[simp] theorem ev_gsN : gsN [] e st = some (e, st) := id rfl
@[simp] theorem ev_sFor {it : M Itm} {g : MG} {b : MS} : sFor it g b e st = bndS (it e st) e fun i st1 => forL i g b i.ds e st1 := id rfl
theorem ev_sAug {i : Nat} {f : F2} {m : M D} {x : D} (h : e[i]? = some (some x)) : sAug i f m e st = bndS (m e st) e fun y st1 => (f x y st1).map fun p => (.nx (e.set i (some p.1)), p.2) := by unfold sAug; rw [h]
@[simp] theorem ev_sAugS {f : F2} {mo mi m : M D} : sAugS f mo mi m e st = bndS (mo e st) e fun o st1 => bndS (mi e st1) e fun i st2 => match oGetM o i st2 with
  | some (x, st3) => bndS (m e st3) e fun y st4 => match f x y st4 with
    | some (z, st5) => (setIx o i z st5).map fun st6 => (.nx e, st6)
    | none => none
  | none => none := id rfl
@[simp] theorem ev_sPar {is : List Nat} {m : M (List D)} : sPar is m e st = bndS (m e st) e fun ds st1 => if ds.length = is.length then some (.nx ((is.zip ds).foldl (fun e p => e.set p.1 (some p.2)) e), st1) else none := id rfl
end
/-- one statement behind the other -/
@[simp] theorem ev_sSeq {m n : MS} {e e1 : Env} {st st1 : Store} (h : m e st = some (.nx e1, st1)) : sSeq m n e st = n e1 st1 := by unfold sSeq; rw [h]
theorem ev_sSeq_rt {m n : MS} {e : Env} {st st1 : Store} {d : D} (h : m e st = some (.rt d, st1)) : sSeq m n e st = some (.rt d, st1) := by unfold sSeq; rw [h]
theorem ev_sSeq_ {m n : MS} {e : Env} {st : Store} : sSeq m n e st = match m e st with
  | some (.nx e1, st1) => n e1 st1
  | o => o := by
  unfold sSeq
  cases m e st with
  | none => rfl
  | some p =>
    obtain ⟨o, s⟩ := p
    cases o <;> rfl
@[simp] theorem ev_addI {i j : Int} {st : Store} : oAdd (.int i) (.int j) st = some (.int (i + j), st) := id rfl
@[simp] theorem ev_subI {i j : Int} {st : Store} : oSub (.int i) (.int j) st = some (.int (i - j), st) := id rfl
@[simp] theorem ev_negI {i : Int} {st : Store} : oNeg (.int i) st = some (.int (-i), st) := id rfl
theorem ev_mulI {i j : Int} {st : Store} (h : -(2 ^ 64) < i ∧ i < 2 ^ 64 ∨ -(2 ^ 64) < j ∧ j < 2 ^ 64) : oMul (.int i) (.int j) st = some (.int (i * j), st) := if_pos h
theorem ev_divI {i j : Int} {st : Store} (h : 0 < j) (h2 : j < 1073741824) : oFdiv (.int i) (.int j) st = some (.int (i / j), st) := if_pos ⟨h, h2⟩
theorem ev_modI {i j : Int} {st : Store} (h : 0 < j) : oMod (.int i) (.int j) st = some (.int (i % j), st) := if_pos h
@[simp] theorem ev_intI {i : Int} {st : Store} : fInt [.int i] st = some (.int i, st) := id rfl
theorem pd_int {i : Int} {st : Store} : PD st (.int i) (.int i) := .int i
theorem sh_int {i : Int} : SeqAt.shaped (.int i) = true := by simp [SeqAt.shaped, PyData.canLay0, PyData.depth]
theorem ev_eqI {i j : Int} {st : Store} : oEqA (.int i) (.int j) st = some (.bl (i == j), st) := by
  show oData PyData.eqv _ _ _ = _
  rw [oData_of (.int i) (.int j) sh_int sh_int]
  simp [PyData.eqv]
theorem ev_neI {i j : Int} {st : Store} : oNe (.int i) (.int j) st = some (.bl (!(i == j)), st) := by
  show oData (fun p q => !PyData.eqv p q) _ _ _ = _
  rw [oData_of (.int i) (.int j) sh_int sh_int]
  simp [PyData.eqv]
@[simp] theorem ev_cmpI {p : Int → Int → Bool} {q : List Nat → List Nat → Bool} {i j : Int} {st : Store} : oCmp p q (.int i) (.int j) st = some (.bl (p i j), st) := id rfl
theorem sizeLine_big : (1000000 : Nat) ≤ sizeLine := by rw [sizeLine_eq]; decide
/-! ### runs -/
theorem runF_rt {n : Nat} {m : MS} {ds : List D} {st st' : Store} {d : D} (h : m (env0 n ds) st = some (.rt d, st')) : runF n m ds st = some (d, st') := by unfold runF; rw [h]
/-! ### while -/
/-- the while statement ends so -/
def WhR (c : M Bool) (b : MS) (e : Env) (st : Store) (o : SR × Store) : Prop := ∃ n, whN c b n e st = some o
theorem whN_succ {c : M Bool} {b : MS} : ∀ {n : Nat} {e : Env} {st : Store} {o : SR × Store}, whN c b n e st = some o → whN c b (n + 1) e st = some o
  | 0, _, _, _, h => by cases h
  | n + 1, e, st, o, h => by
    unfold whN at h ⊢
    cases q : c e st with
    | none => rw [q] at h; cases h
    | some p =>
      obtain ⟨r, st1⟩ := p
      rw [q] at h
      cases r with
      | exc x => exact h
      | ok k =>
        rw [ev_bndS_ok] at h ⊢
        cases k with
        | false => exact h
        | true =>
          rw [if_pos rfl] at h ⊢
          cases q2 : b e st1 with
          | none => rw [q2] at h; cases h
          | some p =>
            obtain ⟨r2, st2⟩ := p
            rw [q2] at h
            cases r2 with
            | nx e2 => exact whN_succ h
            | ct e2 => exact whN_succ h
            | bk e2 => exact h
            | rt d => exact h
            | exc x e2 => exact h
theorem whN_le {c : M Bool} {b : MS} {n m : Nat} {e : Env} {st : Store} {o : SR × Store} (h : whN c b n e st = some o) (l : n ≤ m) : whN c b m e st = some o := by
  induction l with
  | refl => exact h
  | step _ ih => exact whN_succ ih
theorem ev_while {c : M Bool} {b : MS} {e : Env} {st : Store} {o : SR × Store} (h : WhR c b e st o) : sWhile c b e st = some o := by
  obtain ⟨n, h⟩ := h
  have hx : ∃ n, (whN c b n e st).isSome = true := ⟨n, by rw [h] <;> rfl⟩
  unfold sWhile
  rw [dif_pos hx]
  have s := Classical.choose_spec hx
  generalize Classical.choose hx = m at s
  cases q : whN c b m e st with
  | none => rw [q] at s; cases s
  | some o2 =>
    rcases Nat.le_total n m with l | l
    · exact (whN_le h l ▸ q).symm
    · rw [whN_le q l] at h; exact h
theorem WhR.stop {c : M Bool} {b : MS} {e : Env} {st st1 : Store} (h : c e st = some (.ok false, st1)) : WhR c b e st (.nx e, st1) := ⟨1, by unfold whN; rw [h]; rfl⟩
theorem WhR.next {c : M Bool} {b : MS} {e e2 : Env} {st st1 st2 : Store} {o : SR × Store} (h : c e st = some (.ok true, st1)) (h2 : b e st1 = some (.nx e2, st2)) (w : WhR c b e2 st2 o) : WhR c b e st o := by
  obtain ⟨n, w⟩ := w
  refine ⟨n + 1, ?_⟩
  unfold whN
  rw [h, ev_bndS_ok, if_pos rfl, h2]
  exact w
/-! ### for -/
theorem ev_for_nil {it : Itm} {g : MG} {b : MS} {e : Env} {st : Store} (h : it.hold st) : forL it g b [] e st = some (.nx e, st) := by unfold forL; rw [if_pos h]
theorem ev_for_cons {it : Itm} {g : MG} {b : MS} {d : D} {ds : List D} {e e1 e2 : Env} {st st1 st2 : Store} (h : it.hold st) (h1 : g d e st = some (e1, st1)) (h2 : b e1 st1 = some (.nx e2, st2)) : forL it g b (d :: ds) e st = forL it g b ds e2 st2 := by
  rw [forL, if_pos h, h1]
  simp only [h2]
theorem ev_for_ret {it : Itm} {g : MG} {b : MS} {d v : D} {ds : List D} {e e1 : Env} {st st1 st2 : Store} (h : it.hold st) (h1 : g d e st = some (e1, st1)) (h2 : b e1 st1 = some (.rt v, st2)) : forL it g b (d :: ds) e st = some (.rt v, st2) := by
  rw [forL, if_pos h, h1]
  simp only [h2]
/-! ### comprehensions -/
theorem ev_xLc {vs : List Nat} {it : M Itm} {g : MG} {t : M Bool} {el : M D} {e : Env} {st : Store} : xLc vs it g t el e st = bnd (it e st) fun i st1 => lcL i g t el (wipeE e vs) i.ds [] st1 := rfl
/-- no test; each element leaves the store as it is -/
theorem lcL_map {it : Itm} {g : MG} {el : M D} {e : Env} {st : Store} (hh : it.hold st) : ∀ (ds acc : List D) (f : D → D) (e1 : D → Env), (∀ d ∈ ds, g d e st = some (e1 d, st) ∧ el (e1 d) st = some (.ok (f d), st)) → acc.length + ds.length ≤ sizeLine →
    lcL it g xYes el e ds acc st = some (.ok (.lst (acc ++ ds.map f)), st)
  | [], acc, f, e1, _, _ => by rw [lcL, if_pos hh]; simp
  | d :: ds, acc, f, e1, h, hl => by
    obtain ⟨h1, h2⟩ := h d (by simp)
    simp only [List.length_cons] at hl
    rw [lcL, if_pos hh, h1]
    simp only [ev_xYes, h2]
    rw [if_pos (by omega), lcL_map hh ds (acc ++ [f d]) f e1 (fun x hx => h x (List.mem_cons_of_mem _ hx)) (by simp only [List.length_append, List.length_singleton]; omega)]
    simp
/-- with a test -/
theorem lcL_filter {it : Itm} {g : MG} {t : M Bool} {el : M D} {e : Env} {st : Store} (hh : it.hold st) : ∀ (ds acc : List D) (p : D → Bool) (f : D → D) (e1 : D → Env), (∀ d ∈ ds, g d e st = some (e1 d, st) ∧ t (e1 d) st = some (.ok (p d), st) ∧ (p d = true → el (e1 d) st = some (.ok (f d), st))) → acc.length + ds.length ≤ sizeLine →
    lcL it g t el e ds acc st = some (.ok (.lst (acc ++ (ds.filter p).map f)), st)
  | [], acc, p, f, e1, _, _ => by rw [lcL, if_pos hh]; simp
  | d :: ds, acc, p, f, e1, h, hl => by
    obtain ⟨h1, h2, h3⟩ := h d (by simp)
    simp only [List.length_cons] at hl
    rw [lcL, if_pos hh, h1]
    simp only [h2]
    cases q : p d with
    | false =>
      simp only [List.filter_cons, q]
      exact lcL_filter hh ds acc p f e1 (fun x hx => h x (List.mem_cons_of_mem _ hx)) (by omega)
    | true =>
      simp only [h3 q, List.filter_cons, q]
      rw [if_pos (by omega), lcL_filter hh ds (acc ++ [f d]) p f e1 (fun x hx => h x (List.mem_cons_of_mem _ hx)) (by simp only [List.length_append, List.length_singleton]; omega)]
      simp
/-! ### sequences of ints -/
def iD (ns : List Int) : List D := ns.map D.int
@[simp] theorem iD_length {ns : List Int} : (iD ns).length = ns.length := by simp [iD]
@[simp] theorem iD_nil : iD [] = [] := rfl
@[simp] theorem iD_cons {n : Int} {ns : List Int} : iD (n :: ns) = .int n :: iD ns := rfl
@[simp] theorem iD_append {a b : List Int} : iD (a ++ b) = iD a ++ iD b := by simp [iD]
theorem iD_inj {a b : List Int} (h : iD a = iD b) : a = b := by
  induction a generalizing b with
  | nil => cases b with
    | nil => rfl
    | cons => cases h
  | cons x xs ih => cases b with
    | nil => cases h
    | cons y ys =>
      simp only [iD_cons, List.cons.injEq, D.int.injEq] at h
      rw [h.1, ih h.2]
theorem intsD_iD (ns : List Int) : intsD (iD ns) = some ns := intsD_map ns
theorem iD_mem {d : D} {ns : List Int} : d ∈ iD ns ↔ ∃ n ∈ ns, d = .int n := by simp [iD, eq_comm]
theorem atI_nat {α : Type} {xs : List α} {i : Nat} : atI xs (i : Int) = xs[i]? := by
  unfold atI ixN
  rw [if_pos (by omega)]
  by_cases h : (i : Int) < (xs.length : Int)
  · rw [if_pos h]; simp
  · rw [if_neg h]
    have : xs[i]? = none := by rw [List.getElem?_eq_none_iff]; omega
    rw [this]; rfl
theorem ev_ixT {ds : List D} {x : Int} {i : Nat} {d : D} {st : Store} (hx : x = (i : Int)) (h : ds[i]? = some d) : oIx (.tup ds) (.int x) st = some (d, st) := by
  subst hx
  simp only [oIx, seqOf, atI_nat, h]
theorem ev_ixL {ds : List D} {x : Int} {i : Nat} {d : D} {st : Store} (hx : x = (i : Int)) (h : ds[i]? = some d) : oIx (.lst ds) (.int x) st = some (d, st) := by
  subst hx
  simp only [oIx, seqOf, rdlOf, atI_nat, h]
theorem ev_ixR {n : Nat} {ds : List D} {x : Int} {i : Nat} {d : D} {st : Store} (e : st[n]? = some (.lst ds)) (hx : x = (i : Int)) (h : ds[i]? = some d) : oIx (.ref n) (.int x) st = some (d, st) := by
  subst hx
  simp only [oIx, seqOf, rdlOf, e, atI_nat, h]
theorem iD_get {ns : List Int} {i : Nat} {w : Int} (h : ns[i]? = some w) : (iD ns)[i]? = some (.int w) := by simp [iD, h]
theorem cutD_nat {ds : List D} {a b : Nat} (h : a ≤ b) (hb : b ≤ ds.length) : cutD ds (some (a : Int)) (some (b : Int)) = (ds.drop a).take (b - a) := by
  unfold cutD
  rw [HT.sIx_nat, HT.sIx_nat, Nat.min_eq_left hb, Nat.min_eq_left (by omega)]
theorem ev_slT {ds : List D} {x y : Int} {a b : Nat} {st : Store} (hx : x = (a : Int)) (hy : y = (b : Int)) (h : a ≤ b) (hb : b ≤ ds.length) : oSl (.tup ds) (some x) (some y) st = some (.tup ((ds.drop a).take (b - a)), st) := by
  subst hx hy
  show some (D.tup (cutD ds _ _), st) = _
  rw [cutD_nat h hb]
theorem iD_cut {ns : List Int} {a b : Nat} : ((iD ns).drop a).take b = iD ((ns.drop a).take b) := by simp [iD, List.map_take, List.map_drop]
theorem ev_tupT {ds : List D} {st : Store} : fTuple [.tup ds] st = some (.tup ds, st) := rfl
theorem ev_if_t {t : M Bool} {a b : MS} {e : Env} {st st1 : Store} (h : t e st = some (.ok true, st1)) : sIf t a b e st = a e st1 := by rw [ev_sIf, h, ev_bndS_ok, if_pos rfl]
theorem ev_if_f {t : M Bool} {a b : MS} {e : Env} {st st1 : Store} (h : t e st = some (.ok false, st1)) : sIf t a b e st = b e st1 := by rw [ev_sIf, h, ev_bndS_ok, if_neg Bool.false_ne_true]
theorem ev_set_get {st : Store} {b : Nat} {o : Ob} (h : b < st.length) : (st.set b o)[b]? = some o := by simp [h]
theorem ev_gIx {mo mi : M D} {d : D} {e : Env} {st st1 st2 : Store} {o i : D} (h1 : mo e st = some (.ok o, st1)) (h2 : mi e st1 = some (.ok i, st2)) : gIx mo mi d e st = (setIx o i d st2).map fun st3 => (e, st3) := by unfold gIx; rw [h1]; simp only [h2]
@[simp] theorem ev_gIxV {i j : Nat} {d o k : D} {e : Env} {st : Store} (h1 : e[i]? = some (some o)) (h2 : e[j]? = some (some k)) : gIx (xV i) (xV j) d e st = (setIx o k d st).map fun st3 => (e, st3) := ev_gIx (ev_xV h1) (ev_xV h2)
@[simp] theorem ev_gIxC {i : Nat} {d o k : D} {e : Env} {st : Store} (h1 : e[i]? = some (some o)) : gIx (xV i) (xC k) d e st = (setIx o k d st).map fun st3 => (e, st3) := ev_gIx (ev_xV h1) ev_xC
theorem ev_and_t {a b : M Bool} {e : Env} {st st1 : Store} (h : a e st = some (.ok true, st1)) : xAnd a b e st = b e st1 := by unfold xAnd; rw [ev_xbnd, h, ev_bnd_ok, if_pos rfl]
theorem ev_and_f {a b : M Bool} {e : Env} {st st1 : Store} (h : a e st = some (.ok false, st1)) : xAnd a b e st = some (.ok false, st1) := by unfold xAnd; rw [ev_xbnd, h, ev_bnd_ok, if_neg Bool.false_ne_true]
theorem ev_or_t {a b : M Bool} {e : Env} {st st1 : Store} (h : a e st = some (.ok true, st1)) : xOr a b e st = some (.ok true, st1) := by unfold xOr; rw [ev_xbnd, h, ev_bnd_ok, if_pos rfl]
theorem ev_or_f {a b : M Bool} {e : Env} {st st1 : Store} (h : a e st = some (.ok false, st1)) : xOr a b e st = b e st1 := by unfold xOr; rw [ev_xbnd, h, ev_bnd_ok, if_neg Bool.false_ne_true]
theorem ev_xIf_t {α : Type} {t : M Bool} {a b : M α} {e : Env} {st st1 : Store} (h : t e st = some (.ok true, st1)) : xIf t a b e st = a e st1 := by unfold xIf; rw [ev_xbnd, h, ev_bnd_ok, if_pos rfl]
theorem ev_xIf_f {α : Type} {t : M Bool} {a b : M α} {e : Env} {st st1 : Store} (h : t e st = some (.ok false, st1)) : xIf t a b e st = b e st1 := by unfold xIf; rw [ev_xbnd, h, ev_bnd_ok, if_neg Bool.false_ne_true]
end FW

set_option maxHeartbeats 4000000
namespace FW
open PySem L2

/-! ### what is told of a def that makes objects of its own: they are values then -/
mutual
theorem Fz.det {st : Store} {n : Nat} : ∀ {d x y : D}, Fz st n d x → Fz st n d y → x = y
  | _, _, _, .non, .non => rfl
  | _, _, _, .bl _, .bl _ => rfl
  | _, _, _, .int _, .int _ => rfl
  | _, _, _, .str _, .str _ => rfl
  | _, _, _, .cst _, .cst _ => rfl
  | _, _, _, .ref _ _, .ref _ _ => rfl
  | _, _, _, .ref _ h, .olst h2 _ _ => by omega
  | _, _, _, .ref _ h, .odct h2 _ _ => by omega
  | _, _, _, .tup h, .tup h2 => by rw [Fzs.det h h2]
  | _, _, _, .lst h, .lst h2 => by rw [Fzs.det h h2]
  | _, _, _, .dct h, .dct h2 => by rw [Fzs.det h h2]
  | _, _, _, .olst h _ _, .ref _ h2 => by omega
  | _, _, _, .olst _ e h, .olst _ e2 h2 => by
    rw [e] at e2
    cases e2
    rw [Fzs.det h h2]
  | _, _, _, .olst _ e h, .odct _ e2 h2 => by rw [e] at e2; cases e2
  | _, _, _, .odct h _ _, .ref _ h2 => by omega
  | _, _, _, .odct _ e h, .olst _ e2 h2 => by rw [e] at e2; cases e2
  | _, _, _, .odct _ e h, .odct _ e2 h2 => by
    rw [e] at e2
    cases e2
    rw [Fzs.det h h2]
theorem Fzs.det {st : Store} {n : Nat} : ∀ {d x y : List D}, Fzs st n d x → Fzs st n d y → x = y
  | _, _, _, .nil, .nil => rfl
  | _, _, _, .cons h t, .cons h2 t2 => by rw [Fz.det h h2, Fzs.det t t2]
end
theorem Cut.det {st1 : Store} {n : Nat} {a b : Store} (h : Cut st1 n a) (k : Cut st1 n b) : a = b := by
  apply List.ext_getElem?
  intro i
  by_cases hi : i < n
  · have l1 : i < st1.length := Nat.lt_of_lt_of_le hi h.le
    obtain ⟨o, ho⟩ : ∃ o, st1[i]? = some o := ⟨st1[i], by simp [l1]⟩
    obtain ⟨x, hx, p⟩ := h.ob i o hi ho
    obtain ⟨y, hy, q⟩ := k.ob i o hi ho
    rw [hx, hy]
    cases o <;> cases x <;> cases y <;> first
      | exact p.elim
      | exact q.elim
      | (rw [Fzs.det p q])
      | (rw [← p.1, ← q.1, Fzs.det p.2 q.2])
  · rw [List.getElem?_eq_none_iff.mpr (by rw [h.len]; omega), List.getElem?_eq_none_iff.mpr (by rw [k.len]; omega)]
open Classical in
noncomputable def tellF (F : Fn0) : Fn0 := fun ds st => if h : ∃ z : D × Store, ∃ d1 st1, F ds st = some (d1, st1) ∧ Cut st1 st.length z.2 ∧ Fz st1 st.length d1 z.1 then some (choose h) else none
theorem tell_ok {n : Nat} {F : Fn0} : Tell n F (tellF F) := by
  intro ds st d st' _ _ _ h
  unfold tellF at h
  split at h
  · rename_i hh
    have s := Classical.choose_spec hh
    have e := Option.some.inj h
    rw [e] at s
    exact s
  · cases h
theorem tell_of {F : Fn0} {ds : List D} {st st1 st' : Store} {d1 d : D} (h : F ds st = some (d1, st1)) (c : Cut st1 st.length st') (f : Fz st1 st.length d1 d) : tellF F ds st = some (d, st') := by
  have hh : ∃ z : D × Store, ∃ d1 st1, F ds st = some (d1, st1) ∧ Cut st1 st.length z.2 ∧ Fz st1 st.length d1 z.1 := ⟨(d, st'), d1, st1, h, c, f⟩
  unfold tellF
  rw [dif_pos hh]
  have s := Classical.choose_spec hh
  generalize Classical.choose hh = z at s
  obtain ⟨x, y, h1, c1, f1⟩ := s
  rw [h] at h1
  cases h1
  rw [show z = (z.1, z.2) from rfl, c1.det c, f1.det f]
/-- its own objects alone came; none of them stands in the answer -/
theorem tell_flat {F : Fn0} {ds : List D} {st g : Store} {d : D} (w : Wf st) (h : F ds st = some (d, st ++ g)) (l : Lt st.length d) : tellF F ds st = some (d, st) := tell_of h (Cut.same w) (Fz.refl l)
mutual
theorem Lt.le {n m : Nat} (hnm : n ≤ m) : ∀ {d : D}, Lt n d → Lt m d
  | .non, _ => by simp [Lt]
  | .bl _, _ => by simp [Lt]
  | .int _, _ => by simp [Lt]
  | .str _, _ => by simp [Lt]
  | .cst _, _ => by simp [Lt]
  | .tup ds, h => by simp only [Lt] at h ⊢; exact Lts.le hnm h
  | .lst ds, h => by simp only [Lt] at h ⊢; exact Lts.le hnm h
  | .dct ks ds, h => by simp only [Lt] at h ⊢; exact Lts.le hnm h
  | .ref k, h => by simp only [Lt] at h ⊢; omega
theorem Lts.le {n m : Nat} (hnm : n ≤ m) : ∀ {ds : List D}, Lts n ds → Lts m ds
  | [], _ => by simp [Lts]
  | d :: ds, h => by simp only [Lts] at h ⊢; exact ⟨Lt.le hnm h.1, Lts.le hnm h.2⟩
end
theorem lts_iD {n : Nat} : ∀ {ns : List Int}, Lts n (iD ns)
  | [] => by simp [Lts]
  | _ :: ns => by simp only [iD_cons, Lts, Lt]; exact ⟨trivial, lts_iD⟩
theorem Wf.app {st : Store} {g : Store} (w : Wf st) (h : ∀ o ∈ g, LtO (st ++ g).length o) : Wf (st ++ g) := fun o m => by
  rcases List.mem_append.mp m with m | m
  · have := w o m
    have le : st.length ≤ (st ++ g).length := by simp
    cases o with
    | lst ds => exact Lts.le le this
    | flst ds => exact Lts.le le this
    | dct ks ds => exact Lts.le le this
  · exact h o m
end FW

set_option maxHeartbeats 4000000
namespace FW
open PySem PySem.Spec PyProof.Rows L2

/-! ### the head: the objects of the module without its lists -/
def nolist (q : Addr × Obj) : Bool := match q.2.cls with
  | .type n => n != "list"
  | _ => true
def frL (g : Addr → Option Obj) (as : List Addr) : PySem.W.Frag := (He.frG g as).filter nolist
/-- no list among the objects that are known -/
def NoL (K : PySem.W.Frag) : Prop := ∀ a o, K.lookup a = some o → o.cls ≠ .type "list"
theorem frL_mem {g : Addr → Option Obj} {as : List Addr} {a : Addr} {o : Obj} (h : (frL g as).lookup a = some o) : g a = some o ∧ o.cls ≠ .type "list" := by
  obtain ⟨h1, h2⟩ := List.mem_filter.mp (He.lookup_mem h)
  refine ⟨He.frG_mem h1, fun e => ?_⟩
  unfold nolist at h2
  rw [e] at h2
  exact absurd h2 (by decide)
def obsL (n : Nat) (fa : List He.Fa) (fn : List He.DefD) (g : Addr → Option Obj) : He.AlD := He.obsD fa fn (frL g (He.asD g n))
def hookL (n : Nat) (fa : List He.Fa) (fn : List He.DefD) : PySem.W.Hook where
  α := He.AlD
  obs := fun s => obsL n fa fn s.heap.get?
  val := fun _ => He.valD fn
  says := fun _ h => ∃ K : PySem.W.Frag, K.In h ∧ He.SaysD fa fn K ∧ NoL K
  of := fun _ _ e => ⟨_, fun _ _ h => (frL_mem h).1, e, fun _ _ h => (frL_mem h).2⟩
  keeps := fun _ _ _ ⟨K, hK, c, n⟩ k => ⟨K, PySem.W.Frag.In.keeps hK k, c, n⟩
theorem obsL_eq {n : Nat} {fa : List He.Fa} {fn : List He.DefD} {g : Addr → Option Obj} {s : Shared} (h : ∀ a, g a = s.heap.get? a) : obsL n fa fn g = (hookL n fa fn).obs s := by
  have e : g = s.heap.get? := funext h
  rw [e] <;> rfl
/-- THE END: the law's def is worth True -/
theorem walkD {l : PySem.W.OpenLaw} {n k : Nat} {q : Program} {loose : List Str} {XP : (Str → Option Value) → Heap → Prop} {YP : World → Heap → Prop} {d : DefRec} {x : Str} {F : Fn0}
    (hn : l.most = some n) (hn2 : n ≤ sizeLine) (hdf : d.params.defaults = []) (hr : Room k PySem.callerA)
    (hF : ∀ ns : List Int, ns.length ≤ n → ∃ st', F [.ref 0] [.flst (iD ns)] = some (.bl true, st'))
    (facts : ∀ (w : World) (mg : Str → Option Value) (fa : Addr) (h : Heap), YP w h → h.Ns mainGlobals mg → mg d.name = some (.ref fa) → ∃ (K : PySem.W.Frag) (fd : FuncData), K.In h ∧ NoL K ∧ (∀ (s : Shared) (u : Value), BindsTo s fd ⟨[u], []⟩ [(x, u)]) ∧
      ∀ base : Heap, K.In base → base.Ns mainGlobals mg → FnG l.prog w K mg base CX0 k fa fd [x] (spF K 1 F)) : PySem.W.WalkO q loose XP YP l.row.toRowW d [] (fun f vs => PySem.call f vs) := by
  refine walkG (x := x) hn hn2 hdf hr fun w mg fa h Y G hm => ?_
  obtain ⟨K, fd, KX, NK, hb, hG⟩ := facts w mg fa h Y G hm
  refine ⟨K, fd, spF K 1 F, KX, hb, fun H a ns hl hO hS => ?_, hG⟩
  obtain ⟨o, ho⟩ : ∃ o, H a = some (.frz o (.lst (ns.map V.int))) := by
    rcases hS with hR | ⟨o, its, m, e, hc, _⟩
    · rcases hR with e | e
      · rcases hO a with z | ⟨o, xs, z⟩
        · rw [e] at z; cases z
        · rw [e] at z; cases z
      · exact e
    · exact absurd hc (NK a o e)
  obtain ⟨st', hF⟩ := hF ns hl
  have hd : ∀ (ns : List Int) (r : Ad), RDs K r H (iD ns) (ns.map V.int) := by
    intro ns r
    induction ns with
    | nil => exact RDs.nil
    | cons i ns ih => exact RDs.cons (by simp only [RD]) ih
  refine ⟨⟨[a], []⟩, [.flst (iD ns)], [.ref 0], .bl true, st', ⟨rfl, by simp, by simp, ?_⟩, RDs.cons (by simp only [RD]; exact ⟨a, rfl, rfl⟩) RDs.nil, rfl, hF, ?_⟩
  · intro i b ob e1 e2
    cases i with
    | succ i => simp at e1
    | zero =>
      simp only [List.getElem?_cons_zero, Option.some.injEq] at e1 e2
      subst e1 e2
      exact ⟨o, _, ho, hd ns _⟩
  · intro r' H' v S x hv
    simpa only [RD] using hv
end FW

set_option maxHeartbeats 4000000
namespace FW
namespace K69
open PySem PySem.Spec L2
/-- 0 word 1 rest -/
noncomputable def m_read_header_1 : MS := (sAsg (x2 oFdiv (xV 0) (xC (.int 10))) (gN 1))
noncomputable def m_read_header_2 : MS := (sRet (xTup (aC (x2 oFdiv (x2 oMod (xV 0) (xC (.int 10))) (xC (.int 2))) (aC (x2 oFdiv (xV 1) (xC (.int 256))) (aC (x2 oMod (xV 1) (xC (.int 256))) aN)))))
noncomputable def m_read_header : MS := (sSeq m_read_header_1 m_read_header_2)
noncomputable def F_read_header : Fn0 := runF 2 m_read_header
noncomputable abbrev G_read_header : Fn0 := F_read_header
/-- 0 word -/
noncomputable def m_many_of_1 : MS := (sRet (x2 oMod (x2 oFdiv (xV 0) (xC (.int 10))) (xC (.int 256))))
noncomputable def m_many_of : MS := m_many_of_1
noncomputable def F_many_of : Fn0 := runF 1 m_many_of
noncomputable abbrev G_many_of : Fn0 := F_many_of
/-- 0 heap 1 address -/
noncomputable def m_size_at_1 : MS := (sRet (x2 oAdd (xC (.int 1)) (xCl 1 G_many_of (aC (x2 oIx (xV 0) (xV 1)) aN))))
noncomputable def m_size_at : MS := m_size_at_1
noncomputable def F_size_at : Fn0 := runF 2 m_size_at
noncomputable abbrev G_size_at : Fn0 := F_size_at
/-- 0 heap 1 address 2 sort 3 extra 4 many -/
noncomputable def m_object_at_1 : MS := (sAsg (xCl 1 G_read_header (aC (x2 oIx (xV 0) (xV 1)) aN)) (gT 3 (gsC (gN 2) (gsC (gN 3) (gsC (gN 4) gsN)))))
noncomputable def m_object_at_2 : MS := (sRet (xTup (aC (xV 2) (aC (xV 3) (aC (xN fTuple (aC (xSl oSl (xV 0) (pS (x2 oAdd (xV 1) (xC (.int 1)))) (pS (x2 oAdd (x2 oAdd (xV 1) (xC (.int 1))) (xV 4)))) aN)) aN)))))
noncomputable def m_object_at : MS := (sSeq m_object_at_1 m_object_at_2)
noncomputable def F_object_at : Fn0 := runF 5 m_object_at
noncomputable abbrev G_object_at : Fn0 := F_object_at
/-- 0 heap 1 roots 2 found 3 line 4 word -/
noncomputable def m_reached_2b2t1 : MS := (sAsg (xC (.bl true)) (gIx (xV 2) (x2 oFdiv (xV 4) (xC (.int 2)))))
noncomputable def m_reached_2b2t2 : MS := (sEx (xMeth .lst mExtend (xV 3) (aC (x2 oIx (xCl 2 G_object_at (aC (xV 0) (aC (x2 oFdiv (xV 4) (xC (.int 2))) aN))) (xC (.int 2))) aN)))
noncomputable def b_reached_2b2t : MS := (sSeq m_reached_2b2t1 m_reached_2b2t2)
noncomputable def t_reached_2b2 : M Bool := (xAnd (xTst (x2 oEqA (x2 oMod (xV 4) (xC (.int 2))) (xC (.int 0)))) (xTst (x2 (oDIn true) (x2 oFdiv (xV 4) (xC (.int 2))) (xV 2))))
noncomputable def m_reached_2b1 : MS := (sAsg (xMeth .lst mPop (xV 3) aN) (gN 4))
noncomputable def m_reached_2b2 : MS := (sIf t_reached_2b2 b_reached_2b2t sNil)
noncomputable def b_reached_2b : MS := (sSeq m_reached_2b1 m_reached_2b2)
noncomputable def t_reached_2 : M Bool := (xTst (x2 oNe (xV 3) (xVal (xLst aN))))
noncomputable def m_reached_1 : MS := (sPar [2, 3] (aC (xNew fDct0) (aC (xNew (fCall oList (aC (xV 1) aN))) aN)))
noncomputable def m_reached_2 : MS := (sWhile t_reached_2 b_reached_2b)
noncomputable def m_reached_3 : MS := (sRet (xN fTuple (aC (xVal (fCall oSortedAll (aC (xV 2) aN))) aN)))
noncomputable def m_reached : MS := (sSeq m_reached_1 (sSeq m_reached_2 m_reached_3))
noncomputable def F_reached : Fn0 := runF 5 m_reached
noncomputable def G_reached : Fn0 := tellF F_reached
/-- 0 heap 1 roots 2 address -/
noncomputable def m_reached_words_1 : MS := (sRet (xN fSum (aC (xVal (xLc [2] (iSeq (xCl 2 G_reached (aC (xV 0) (aC (xV 1) aN)))) (gN 2) xYes (xCl 2 G_size_at (aC (xV 0) (aC (xV 2) aN))))) aN)))
noncomputable def m_reached_words : MS := m_reached_words_1
noncomputable def F_reached_words : Fn0 := runF 3 m_reached_words
noncomputable abbrev G_reached_words : Fn0 := F_reached_words
/-- 0 words 1 offset 2 begin 3 found 4 moved 5 word 6 at -/
noncomputable def m_moved_word_1t1 : MS := (sRet (xV 5))
noncomputable def b_moved_word_1t : MS := m_moved_word_1t1
noncomputable def t_moved_word_1 : M Bool := (xTst (x2 oEqA (x2 oMod (xV 5) (xC (.int 2))) (xC (.int 1))))
noncomputable def m_moved_word_2t1 : MS := (sAsg (x2 oSub (x2 oFdiv (xV 5) (xC (.int 2))) (xV 1)) (gN 6))
noncomputable def m_moved_word_2t2 : MS := (sAsg (x2 oMul (xC (.int 2)) (x2 oAdd (xV 2) (xN fLen (aC (xV 3) aN)))) (gIx (xV 4) (xV 5)))
noncomputable def m_moved_word_2t3 : MS := (sEx (xMeth .lst mExtend (xV 3) (aC (xSl oSl (xV 0) (pS (xV 6)) (pS (x2 oAdd (x2 oAdd (xV 6) (xC (.int 1))) (xCl 1 G_many_of (aC (x2 oIx (xV 0) (xV 6)) aN))))) aN)))
noncomputable def b_moved_word_2t : MS := (sSeq m_moved_word_2t1 (sSeq m_moved_word_2t2 m_moved_word_2t3))
noncomputable def t_moved_word_2 : M Bool := (xTst (x2 (oDIn true) (xV 5) (xV 4)))
noncomputable def m_moved_word_1 : MS := (sIf t_moved_word_1 b_moved_word_1t sNil)
noncomputable def m_moved_word_2 : MS := (sIf t_moved_word_2 b_moved_word_2t sNil)
noncomputable def m_moved_word_3 : MS := (sRet (x2 oDGet (xV 4) (xV 5)))
noncomputable def m_moved_word : MS := (sSeq m_moved_word_1 (sSeq m_moved_word_2 m_moved_word_3))
noncomputable def F_moved_word : Fn0 := runF 7 m_moved_word
noncomputable abbrev G_moved_word : Fn0 := F_moved_word
/-- 0 words 1 offset 2 begin 3 roots 4 found 5 moved 6 word 7 at 8 behind 9 index -/
noncomputable def m_gathered_4b2b1 : MS := (sAsg (xCl 6 G_moved_word (aC (xV 0) (aC (xV 1) (aC (xV 2) (aC (xV 4) (aC (xV 5) (aC (x2 oIx (xV 4) (xV 9)) aN))))))) (gIx (xV 4) (xV 9)))
noncomputable def b_gathered_4b2b : MS := m_gathered_4b2b1
noncomputable def m_gathered_4b1 : MS := (sAsg (x2 oAdd (x2 oAdd (xV 7) (xC (.int 1))) (xCl 1 G_many_of (aC (x2 oIx (xV 4) (xV 7)) aN))) (gN 8))
noncomputable def m_gathered_4b2 : MS := (sFor (iOf rng2 (aC (x2 oAdd (xV 7) (xC (.int 1))) (aC (xV 8) aN))) (gN 9) b_gathered_4b2b)
noncomputable def m_gathered_4b3 : MS := (sAsg (xV 8) (gN 7))
noncomputable def b_gathered_4b : MS := (sSeq m_gathered_4b1 (sSeq m_gathered_4b2 m_gathered_4b3))
noncomputable def t_gathered_4 : M Bool := (xTst (x2 oLt (xV 7) (xN fLen (aC (xV 4) aN))))
noncomputable def m_gathered_1 : MS := (sAsg (xTup (aC (xNew (xLst aN)) (aC (xNew fDct0) aN))) (gT 2 (gsC (gN 4) (gsC (gN 5) gsN))))
noncomputable def m_gathered_2 : MS := (sAsg (xVal (xLc [6] (iSeq (xV 3)) (gN 6) xYes (xCl 6 G_moved_word (aC (xV 0) (aC (xV 1) (aC (xV 2) (aC (xV 4) (aC (xV 5) (aC (xV 6) aN))))))))) (gN 3))
noncomputable def m_gathered_3 : MS := (sAsg (xC (.int 0)) (gN 7))
noncomputable def m_gathered_4 : MS := (sWhile t_gathered_4 b_gathered_4b)
noncomputable def m_gathered_5 : MS := (sRet (xTup (aC (xV 4) (aC (xV 3) aN))))
noncomputable def m_gathered : MS := (sSeq m_gathered_1 (sSeq m_gathered_2 (sSeq m_gathered_3 (sSeq m_gathered_4 m_gathered_5))))
noncomputable def F_gathered : Fn0 := runF 10 m_gathered
noncomputable def G_gathered : Fn0 := tellF F_gathered
/-- 0 room 1 half 2 words -/
noncomputable def m_spread_1 : MS := (sRet (xTup (aStar (x2 oMul (xVal (xLst (aC (xC (.int 0)) aN))) (x2 oMul (xV 0) (xV 1))) (aStar (xV 2) (aStar (x2 oMul (xVal (xLst (aC (xC (.int 0)) aN))) (x2 oSub (x2 oMul (xV 0) (x2 oSub (xC (.int 2)) (xV 1))) (xN fLen (aC (xV 2) aN)))) aN)))))
noncomputable def m_spread : MS := m_spread_1
noncomputable def F_spread : Fn0 := runF 3 m_spread
noncomputable abbrev G_spread : Fn0 := F_spread
/-- 0 heap 1 room 2 half 3 roots 4 begin 5 found -/
noncomputable def m_collected_1 : MS := (sAsg (x2 oMul (xV 1) (x2 oSub (xC (.int 1)) (xV 2))) (gN 4))
noncomputable def m_collected_2 : MS := (sAsg (xCl 4 G_gathered (aC (xSl oSl (xV 0) (pS (x2 oMul (xV 1) (xV 2))) (pS (x2 oMul (xV 1) (x2 oAdd (xV 2) (xC (.int 1)))))) (aC (x2 oMul (xV 1) (xV 2)) (aC (xV 4) (aC (xV 3) aN))))) (gT 2 (gsC (gN 5) (gsC (gN 3) gsN))))
noncomputable def m_collected_3 : MS := (sRet (xTup (aC (xCl 3 G_spread (aC (xV 1) (aC (x2 oSub (xC (.int 1)) (xV 2)) (aC (xV 5) aN)))) (aC (x2 oAdd (xV 4) (xN fLen (aC (xV 5) aN))) (aC (xN fTuple (aC (xV 3) aN)) aN)))))
noncomputable def m_collected : MS := (sSeq m_collected_1 (sSeq m_collected_2 m_collected_3))
noncomputable def F_collected : Fn0 := runF 6 m_collected
noncomputable abbrev G_collected : Fn0 := F_collected
/-- 0 script 1 cell -/
noncomputable def m_law_bag_1 : MS := (sRet (xNew (xLst (aC (xC (.int 0)) (aC (xC (.int 1234567891)) (aC (xC (.int 0)) (aC (xVal (xLc [1] (iSeq (xSl oSl (xV 0) pN (pS (xC (.int 63))))) (gN 1) xYes (xN fAbs (aC (xV 1) aN)))) aN)))))))
noncomputable def m_law_bag : MS := m_law_bag_1
noncomputable def F_law_bag : Fn0 := runF 2 m_law_bag
noncomputable abbrev G_law_bag : Fn0 := F_law_bag
/-- 0 bag 1 many 2 cell 3 stirred 4 value 5 begin 6 second -/
noncomputable def m_law_take_1t3t1 : MS := (sAsg (xV 2) (gIx (xV 0) (xC (.int 0))))
noncomputable def b_law_take_1t3t : MS := m_law_take_1t3t1
noncomputable def t_law_take_1t3 : M Bool := (xTst (x2 oGeA (xV 2) (x2 oPow (xC (.int 10)) (xC (.int 18)))))
noncomputable def m_law_take_1t1 : MS := (sAsg (x2 oIx (x2 oAdd (xSl oSl (x2 oIx (xV 0) (xC (.int 3))) (pS (x2 oIx (xV 0) (xC (.int 2)))) pN) (xVal (xLst (aC (xC (.int 0)) aN)))) (xC (.int 0))) (gN 2))
noncomputable def m_law_take_1t2 : MS := (sAugS (fIp (fun i j => i + j)) (xV 0) (xC (.int 2)) (xC (.int 1)))
noncomputable def m_law_take_1t3 : MS := (sIf t_law_take_1t3 b_law_take_1t3t sNil)
noncomputable def m_law_take_1t4 : MS := (sAsg (x2 oAdd (x2 oAdd (x2 oMul (x2 oIx (xV 0) (xC (.int 1))) (xC (.int 48271))) (x2 oMod (xN fInt (aC (xV 2) aN)) (xC (.int 2147483647)))) (x2 oMul (xC (.int 7919)) (x2 oIx (xV 0) (xC (.int 2))))) (gN 3))
noncomputable def m_law_take_1t5 : MS := (sAsg (x2 oMod (xN fInt (aC (xV 3) aN)) (xC (.int 2147483647))) (gIx (xV 0) (xC (.int 1))))
noncomputable def b_law_take_1t : MS := (sSeq m_law_take_1t1 (sSeq m_law_take_1t2 (sSeq m_law_take_1t3 (sSeq m_law_take_1t4 m_law_take_1t5))))
noncomputable def t_law_take_1 : M Bool := (xTst (x2 oEqA (x2 oIx (xV 0) (xC (.int 0))) (xC (.int 0))))
noncomputable def m_law_take_2t1 : MS := (sAsg (x2 oMod (xN fInt (aC (x2 oIx (xV 0) (xC (.int 0))) aN)) (xV 1)) (gN 4))
noncomputable def m_law_take_2t2 : MS := (sAsg (x2 oFdiv (xN fInt (aC (x2 oIx (xV 0) (xC (.int 0))) aN)) (xV 1)) (gIx (xV 0) (xC (.int 0))))
noncomputable def m_law_take_2t3 : MS := (sRet (xV 4))
noncomputable def b_law_take_2t : MS := (sSeq m_law_take_2t1 (sSeq m_law_take_2t2 m_law_take_2t3))
noncomputable def t_law_take_2 : M Bool := (xTst (x2 oGt (x2 oIx (xV 0) (xC (.int 0))) (xC (.int 0))))
noncomputable def m_law_take_1 : MS := (sIf t_law_take_1 b_law_take_1t sNil)
noncomputable def m_law_take_2 : MS := (sIf t_law_take_2 b_law_take_2t sNil)
noncomputable def m_law_take_3 : MS := (sAsg (x2 oMod (xN fInt (aC (x2 oMul (x2 oAdd (x2 oIx (xV 0) (xC (.int 1))) (xC (.int 1))) (xC (.int 39373))) aN)) (xC (.int 1000000007))) (gN 5))
noncomputable def m_law_take_4 : MS := (sAsg (x2 oMod (xN fInt (aC (x2 oMul (x2 oMod (xN fInt (aC (x2 oMul (xV 5) (xV 5)) aN)) (xC (.int 998244353))) (xC (.int 30011))) aN)) (xC (.int 998244353))) (gN 6))
noncomputable def m_law_take_5 : MS := (sRet (x2 oMod (xN fInt (aC (x2 oFdiv (xV 6) (xC (.int 7))) aN)) (xV 1)))
noncomputable def m_law_take : MS := (sSeq m_law_take_1 (sSeq m_law_take_2 (sSeq m_law_take_3 (sSeq m_law_take_4 m_law_take_5))))
noncomputable def F_law_take : Fn0 := runF 7 m_law_take
noncomputable abbrev G_law_take : Fn0 := F_law_take
/-- 0 bag 1 things -/
noncomputable def m_law_some_1 : MS := (sRet (x2 oIx (xV 1) (xCl 2 G_law_take (aC (xV 0) (aC (xN fLen (aC (xV 1) aN)) aN)))))
noncomputable def m_law_some : MS := m_law_some_1
noncomputable def F_law_some : Fn0 := runF 2 m_law_some
noncomputable abbrev G_law_some : Fn0 := F_law_some
/-- 0 found 1 due -/
noncomputable def m_law_alike_1 : MS := (sRet (xAndV (x2 oEqA (xV 0) (xV 1)) (x2 oEqA (xN fRepr (aC (xV 0) aN)) (xN fRepr (aC (xV 1) aN)))))
noncomputable def m_law_alike : MS := m_law_alike_1
noncomputable def F_law_alike : Fn0 := runF 2 m_law_alike
noncomputable abbrev G_law_alike : Fn0 := F_law_alike
/-- 0 sort 1 extra 2 many -/
noncomputable def m_law_header_1 : MS := (sRet (x2 oAdd (x2 oMul (xC (.int 2)) (x2 oAdd (x2 oMul (xC (.int 5)) (x2 oAdd (x2 oMul (xC (.int 256)) (xV 1)) (xV 2))) (xV 0))) (xC (.int 1))))
noncomputable def m_law_header : MS := m_law_header_1
noncomputable def F_law_header : Fn0 := runF 3 m_law_header
noncomputable abbrev G_law_header : Fn0 := F_law_header
/-- 0 heap 1 address 2 head 3 many -/
noncomputable def m_law_read_1 : MS := (sAsg (x2 oFdiv (x2 oSub (x2 oIx (xV 0) (xV 1)) (xC (.int 1))) (xC (.int 2))) (gN 2))
noncomputable def m_law_read_2 : MS := (sAsg (x2 oMod (xN fInt (aC (x2 oFdiv (xN fInt (aC (xV 2) aN)) (xC (.int 5))) aN)) (xC (.int 256))) (gN 3))
noncomputable def m_law_read_3 : MS := (sRet (xTup (aC (x2 oMod (xN fInt (aC (xV 2) aN)) (xC (.int 5))) (aC (x2 oFdiv (xN fInt (aC (xV 2) aN)) (xC (.int 1280))) (aC (xN fTuple (aC (xSl oSl (xV 0) (pS (x2 oAdd (xV 1) (xC (.int 1)))) (pS (x2 oAdd (x2 oAdd (xV 1) (xC (.int 1))) (xV 3)))) aN)) aN)))))
noncomputable def m_law_read : MS := (sSeq m_law_read_1 (sSeq m_law_read_2 m_law_read_3))
noncomputable def F_law_read : Fn0 := runF 4 m_law_read
noncomputable abbrev G_law_read : Fn0 := F_law_read
/-- 0 heap 1 words 2 found 3 line 4 word 5 address -/
noncomputable def m_law_reached_2b2t1 : MS := (sEx (xMeth .lst mAppend (xV 2) (aC (xV 5) aN)))
noncomputable def m_law_reached_2b2t2 : MS := (sEx (xMeth .lst mExtend (xV 3) (aC (xVal (xLc [4] (iSeq (x2 oIx (xCl 2 G_law_read (aC (xV 0) (aC (xV 5) aN))) (xC (.int 2)))) (gN 4) (xTst (x2 oEqA (x2 oMod (xN fInt (aC (xV 4) aN)) (xC (.int 2))) (xC (.int 0)))) (xV 4))) aN)))
noncomputable def b_law_reached_2b2t : MS := (sSeq m_law_reached_2b2t1 m_law_reached_2b2t2)
noncomputable def t_law_reached_2b2 : M Bool := (xTst (x2 (oIn true) (xV 5) (xV 2)))
noncomputable def m_law_reached_2b1 : MS := (sAsg (x2 oFdiv (xN fInt (aC (xMeth .lst mPop (xV 3) aN) aN)) (xC (.int 2))) (gN 5))
noncomputable def m_law_reached_2b2 : MS := (sIf t_law_reached_2b2 b_law_reached_2b2t sNil)
noncomputable def b_law_reached_2b : MS := (sSeq m_law_reached_2b1 m_law_reached_2b2)
noncomputable def t_law_reached_2 : M Bool := (xTst (x2 oNe (xV 3) (xVal (xLst aN))))
noncomputable def m_law_reached_1 : MS := (sPar [2, 3] (aC (xNew (xLst aN)) (aC (xNew (xLc [4] (iSeq (xV 1)) (gN 4) (xTst (x2 oEqA (x2 oMod (xN fInt (aC (xV 4) aN)) (xC (.int 2))) (xC (.int 0)))) (xV 4))) aN)))
noncomputable def m_law_reached_2 : MS := (sWhile t_law_reached_2 b_law_reached_2b)
noncomputable def m_law_reached_3 : MS := (sRet (xVal (fCall oSortedAll (aC (xV 2) aN))))
noncomputable def m_law_reached : MS := (sSeq m_law_reached_1 (sSeq m_law_reached_2 m_law_reached_3))
noncomputable def F_law_reached : Fn0 := runF 6 m_law_reached
noncomputable def G_law_reached : Fn0 := tellF F_law_reached
/-- 0 heap 1 word 2 places 3 order 4 free 5 address -/
noncomputable def m_law_placed_2t1 : MS := (sRet (xV 4))
noncomputable def b_law_placed_2t : MS := m_law_placed_2t1
noncomputable def t_law_placed_2 : M Bool := (xOr (xTst (x2 oEqA (x2 oMod (xN fInt (aC (xV 1) aN)) (xC (.int 2))) (xC (.int 1)))) (xTst (x2 (oDIn false) (xV 5) (xV 2))))
noncomputable def m_law_placed_1 : MS := (sAsg (x2 oFdiv (xN fInt (aC (xV 1) aN)) (xC (.int 2))) (gN 5))
noncomputable def m_law_placed_2 : MS := (sIf t_law_placed_2 b_law_placed_2t sNil)
noncomputable def m_law_placed_3 : MS := (sAsg (xV 4) (gIx (xV 2) (xV 5)))
noncomputable def m_law_placed_4 : MS := (sEx (xMeth .lst mAppend (xV 3) (aC (xV 5) aN)))
noncomputable def m_law_placed_5 : MS := (sRet (x2 oAdd (x2 oAdd (xV 4) (xC (.int 1))) (xN fLen (aC (x2 oIx (xCl 2 G_law_read (aC (xV 0) (aC (xV 5) aN))) (xC (.int 2))) aN))))
noncomputable def m_law_placed : MS := (sSeq m_law_placed_1 (sSeq m_law_placed_2 (sSeq m_law_placed_3 (sSeq m_law_placed_4 m_law_placed_5))))
noncomputable def F_law_placed : Fn0 := runF 6 m_law_placed
noncomputable abbrev G_law_placed : Fn0 := F_law_placed
/-- 0 heap 1 room 2 half 3 words 4 begin 5 places 6 order 7 free 8 word 9 at 10 found 11 address 12 sort 13 extra 14 fields 15 row 16 one -/
noncomputable def m_law_collected_3b1 : MS := (sAsg (xCl 5 G_law_placed (aC (xV 0) (aC (xV 8) (aC (xV 5) (aC (xV 6) (aC (xV 7) aN)))))) (gN 7))
noncomputable def b_law_collected_3b : MS := m_law_collected_3b1
noncomputable def m_law_collected_5b1b1 : MS := (sAsg (xCl 5 G_law_placed (aC (xV 0) (aC (xV 8) (aC (xV 5) (aC (xV 6) (aC (xV 7) aN)))))) (gN 7))
noncomputable def b_law_collected_5b1b : MS := m_law_collected_5b1b1
noncomputable def m_law_collected_5b1 : MS := (sFor (iSeq (x2 oIx (xCl 2 G_law_read (aC (xV 0) (aC (x2 oIx (xV 6) (xV 9)) aN))) (xC (.int 2)))) (gN 8) b_law_collected_5b1b)
noncomputable def m_law_collected_5b2 : MS := (sAug 9 (fIp (fun i j => i + j)) (xC (.int 1)))
noncomputable def b_law_collected_5b : MS := (sSeq m_law_collected_5b1 m_law_collected_5b2)
noncomputable def t_law_collected_5 : M Bool := (xTst (x2 oLt (xV 9) (xN fLen (aC (xV 6) aN))))
noncomputable def m_law_collected_7b1 : MS := (sAsg (xCl 2 G_law_read (aC (xV 0) (aC (xV 11) aN))) (gT 3 (gsC (gN 12) (gsC (gN 13) (gsC (gN 14) gsN)))))
noncomputable def m_law_collected_7b2 : MS := (sAsg (x2 oAdd (xVal (xLst (aC (x2 oIx (xV 0) (xV 11)) aN))) (xVal (xLc [16] (iSeq (xV 14)) (gN 16) xYes (xIf (xTst (x2 oEqA (x2 oMod (xN fInt (aC (xV 16) aN)) (xC (.int 2))) (xC (.int 0)))) (x2 oMul (xC (.int 2)) (x2 oDGet (xV 5) (x2 oFdiv (xN fInt (aC (xV 16) aN)) (xC (.int 2))))) (xV 16))))) (gN 15))
noncomputable def m_law_collected_7b3 : MS := (sAsg (xV 15) (gSl (xV 10) (x2 oDGet (xV 5) (xV 11)) (x2 oAdd (x2 oDGet (xV 5) (xV 11)) (xN fLen (aC (xV 15) aN)))))
noncomputable def b_law_collected_7b : MS := (sSeq m_law_collected_7b1 (sSeq m_law_collected_7b2 m_law_collected_7b3))
noncomputable def m_law_collected_1 : MS := (sAsg (x2 oMul (x2 oSub (xC (.int 1)) (xV 2)) (xV 1)) (gN 4))
noncomputable def m_law_collected_2 : MS := (sAsg (xTup (aC (xNew fDct0) (aC (xNew (xLst aN)) (aC (xV 4) aN)))) (gT 3 (gsC (gN 5) (gsC (gN 6) (gsC (gN 7) gsN)))))
noncomputable def m_law_collected_3 : MS := (sFor (iSeq (xV 3)) (gN 8) b_law_collected_3b)
noncomputable def m_law_collected_4 : MS := (sAsg (xC (.int 0)) (gN 9))
noncomputable def m_law_collected_5 : MS := (sWhile t_law_collected_5 b_law_collected_5b)
noncomputable def m_law_collected_6 : MS := (sAsg (xNew (f2 pRep (xVal (xLst (aC (xC (.int 0)) aN))) (x2 oMul (xC (.int 2)) (xV 1)))) (gN 10))
noncomputable def m_law_collected_7 : MS := (sFor (iSeq (xV 6)) (gN 11) b_law_collected_7b)
noncomputable def m_law_collected_8 : MS := (sRet (xTup (aC (xV 10) (aC (xV 7) (aC (xVal (xLc [16] (iSeq (xV 3)) (gN 16) xYes (xIf (xTst (x2 oEqA (x2 oMod (xN fInt (aC (xV 16) aN)) (xC (.int 2))) (xC (.int 0)))) (x2 oMul (xC (.int 2)) (x2 oDGet (xV 5) (x2 oFdiv (xN fInt (aC (xV 16) aN)) (xC (.int 2))))) (xV 16)))) aN)))))
noncomputable def m_law_collected : MS := (sSeq m_law_collected_1 (sSeq m_law_collected_2 (sSeq m_law_collected_3 (sSeq m_law_collected_4 (sSeq m_law_collected_5 (sSeq m_law_collected_6 (sSeq m_law_collected_7 m_law_collected_8)))))))
noncomputable def F_law_collected : Fn0 := runF 17 m_law_collected
noncomputable def G_law_collected : Fn0 := tellF F_law_collected
/-- 0 bag 1 many 2 extras 3 sort -/
noncomputable def m_law_sort_for_1 : MS := (sAsg (xIf (xTst (x2 oEqA (xV 1) (xC (.int 0)))) (xC (.int 4)) (xCl 2 G_law_some (aC (xV 0) (aC (xVal (xIf (xTst (x2 oEqA (xV 1) (xC (.int 1)))) (xLst (aC (xC (.int 0)) (aC (xC (.int 1)) (aC (xC (.int 4)) (aC (xC (.int 2)) (aC (xC (.int 3)) aN)))))) (xLst (aC (xC (.int 0)) (aC (xC (.int 1)) (aC (xC (.int 4)) aN)))))) aN)))) (gN 3))
noncomputable def m_law_sort_for_2 : MS := (sRet (xTup (aC (xV 3) (aC (xIf (xTst (x2 oEqA (xV 3) (xC (.int 0)))) (xC (.int 0)) (xCl 2 G_law_some (aC (xV 0) (aC (xV 2) aN)))) aN))))
noncomputable def m_law_sort_for : MS := (sSeq m_law_sort_for_1 m_law_sort_for_2)
noncomputable def F_law_sort_for : Fn0 := runF 4 m_law_sort_for
noncomputable abbrev G_law_sort_for : Fn0 := F_law_sort_for
/-- 0 bag 1 sizes 2 turn 3 half 4 room 5 heap 6 places 7 at 8 size 9 place 10 sort 11 extra 12 fields 13 k -/
noncomputable def m_law_heap_drawn_5b1 : MS := (sEx (xMeth .lst mAppend (xV 6) (aC (xV 7) aN)))
noncomputable def m_law_heap_drawn_5b2 : MS := (sAug 7 (fIp (fun i j => i + j)) (x2 oAdd (xC (.int 1)) (xV 8)))
noncomputable def b_law_heap_drawn_5b : MS := (sSeq m_law_heap_drawn_5b1 m_law_heap_drawn_5b2)
noncomputable def m_law_heap_drawn_6b3b1 : MS := (sEx (xMeth .lst mAppend (xV 12) (aC (xIf (xTst (x2 oGt (xCl 2 G_law_take (aC (xV 0) (aC (xC (.int 3)) aN))) (xC (.int 0)))) (x2 oMul (xC (.int 2)) (xCl 2 G_law_some (aC (xV 0) (aC (xV 6) aN)))) (xCl 2 G_law_some (aC (xV 0) (aC (xVal (xLst (aC (xC (.int 11)) (aC (xC (.int 5)) (aC (xC (.int 13)) (aC (x1 oNeg (xC (.int 29))) aN)))))) aN)))) aN)))
noncomputable def b_law_heap_drawn_6b3b : MS := m_law_heap_drawn_6b3b1
noncomputable def m_law_heap_drawn_6b1 : MS := (sAsg (xCl 3 G_law_sort_for (aC (xV 0) (aC (xV 8) (aC (xVal (xLst (aC (xC (.int 0)) (aC (xC (.int 1)) (aC (xC (.int 2)) (aC (xC (.int 5)) aN)))))) aN)))) (gT 2 (gsC (gN 10) (gsC (gN 11) gsN))))
noncomputable def m_law_heap_drawn_6b2 : MS := (sAsg (xNew (xLst aN)) (gN 12))
noncomputable def m_law_heap_drawn_6b3 : MS := (sFor (iOf rng1 (aC (xV 8) aN)) (gN 13) b_law_heap_drawn_6b3b)
noncomputable def m_law_heap_drawn_6b4 : MS := (sAsg (x2 oAdd (xVal (xLst (aC (xCl 3 G_law_header (aC (xV 10) (aC (xV 11) (aC (xV 8) aN)))) aN))) (xV 12)) (gSl (xV 5) (xV 9) (x2 oAdd (x2 oAdd (xV 9) (xC (.int 1))) (xV 8))))
noncomputable def b_law_heap_drawn_6b : MS := (sSeq m_law_heap_drawn_6b1 (sSeq m_law_heap_drawn_6b2 (sSeq m_law_heap_drawn_6b3 m_law_heap_drawn_6b4)))
noncomputable def m_law_heap_drawn_1 : MS := (sAsg (xVal (xLc [2] (iOf rng1 (aC (xCl 2 G_law_some (aC (xV 0) (aC (xVal (xLst (aC (xC (.int 6)) (aC (xC (.int 3)) (aC (xC (.int 14)) (aC (xC (.int 0)) (aC (xC (.int 9)) aN))))))) aN))) aN)) (gN 2) xYes (xCl 2 G_law_take (aC (xV 0) (aC (xC (.int 4)) aN))))) (gN 1))
noncomputable def m_law_heap_drawn_2 : MS := (sAsg (xCl 2 G_law_take (aC (xV 0) (aC (xC (.int 2)) aN))) (gN 3))
noncomputable def m_law_heap_drawn_3 : MS := (sAsg (x2 oAdd (x2 oAdd (xN fSum (aC (xV 1) aN)) (xN fLen (aC (xV 1) aN))) (xCl 2 G_law_some (aC (xV 0) (aC (xVal (xLst (aC (xC (.int 0)) (aC (xC (.int 0)) (aC (xC (.int 3)) (aC (xC (.int 20)) aN)))))) aN)))) (gN 4))
noncomputable def m_law_heap_drawn_4 : MS := (sPar [5, 6, 7] (aC (xNew (f2 pRep (xVal (xLst (aC (xC (.int 0)) aN))) (x2 oMul (xC (.int 2)) (xV 4)))) (aC (xNew (xLst aN)) (aC (x2 oMul (xV 3) (xV 4)) aN))))
noncomputable def m_law_heap_drawn_5 : MS := (sFor (iSeq (xV 1)) (gN 8) b_law_heap_drawn_5b)
noncomputable def m_law_heap_drawn_6 : MS := (sFor (iOf zipI (aC (xV 6) (aC (xV 1) aN))) (gT 2 (gsC (gN 9) (gsC (gN 8) gsN))) b_law_heap_drawn_6b)
noncomputable def m_law_heap_drawn_7 : MS := (sRet (xTup (aC (xN fTuple (aC (xV 5) aN)) (aC (xV 4) (aC (xV 3) (aC (xV 6) aN))))))
noncomputable def m_law_heap_drawn : MS := (sSeq m_law_heap_drawn_1 (sSeq m_law_heap_drawn_2 (sSeq m_law_heap_drawn_3 (sSeq m_law_heap_drawn_4 (sSeq m_law_heap_drawn_5 (sSeq m_law_heap_drawn_6 m_law_heap_drawn_7))))))
noncomputable def F_law_heap_drawn : Fn0 := runF 14 m_law_heap_drawn
noncomputable def G_law_heap_drawn : Fn0 := tellF F_law_heap_drawn
/-- 0 heap 1 words 2 met 3 found 4 line 5 word 6 sort 7 extra 8 fields -/
noncomputable def m_law_shape_2b2t1 : MS := (sEx (xMeth .lst mAppend (xV 3) (aC (xV 5) aN)))
noncomputable def b_law_shape_2b2t : MS := m_law_shape_2b2t1
noncomputable def m_law_shape_2b2f1t1 : MS := (sEx (xMeth .lst mAppend (xV 3) (aC (xTup (aC (xC (.str "again")) (aC (x2 oDGet (xV 2) (xV 5)) aN))) aN)))
noncomputable def b_law_shape_2b2f1t : MS := m_law_shape_2b2f1t1
noncomputable def m_law_shape_2b2f1f1 : MS := (sAsg (xN fLen (aC (xV 2) aN)) (gIx (xV 2) (xV 5)))
noncomputable def m_law_shape_2b2f1f2 : MS := (sAsg (xCl 2 G_law_read (aC (xV 0) (aC (x2 oFdiv (xN fInt (aC (xV 5) aN)) (xC (.int 2))) aN))) (gT 3 (gsC (gN 6) (gsC (gN 7) (gsC (gN 8) gsN)))))
noncomputable def m_law_shape_2b2f1f3 : MS := (sEx (xMeth .lst mAppend (xV 3) (aC (xTup (aC (xV 6) (aC (xV 7) (aC (xN fLen (aC (xV 8) aN)) aN)))) aN)))
noncomputable def m_law_shape_2b2f1f4 : MS := (sEx (xMeth .lst mExtend (xV 4) (aC (xVal (fCall oList (aC (xV 8) aN))) aN)))
noncomputable def b_law_shape_2b2f1f : MS := (sSeq m_law_shape_2b2f1f1 (sSeq m_law_shape_2b2f1f2 (sSeq m_law_shape_2b2f1f3 m_law_shape_2b2f1f4)))
noncomputable def t_law_shape_2b2f1 : M Bool := (xTst (x2 (oDIn false) (xV 5) (xV 2)))
noncomputable def m_law_shape_2b2f1 : MS := (sIf t_law_shape_2b2f1 b_law_shape_2b2f1t b_law_shape_2b2f1f)
noncomputable def b_law_shape_2b2f : MS := m_law_shape_2b2f1
noncomputable def t_law_shape_2b2 : M Bool := (xTst (x2 oEqA (x2 oMod (xN fInt (aC (xV 5) aN)) (xC (.int 2))) (xC (.int 1))))
noncomputable def m_law_shape_2b1 : MS := (sAsg (xMeth .lst mPop (xV 4) (aC (xC (.int 0)) aN)) (gN 5))
noncomputable def m_law_shape_2b2 : MS := (sIf t_law_shape_2b2 b_law_shape_2b2t b_law_shape_2b2f)
noncomputable def b_law_shape_2b : MS := (sSeq m_law_shape_2b1 m_law_shape_2b2)
noncomputable def t_law_shape_2 : M Bool := (xTst (x2 oNe (xV 4) (xVal (xLst aN))))
noncomputable def m_law_shape_1 : MS := (sPar [2, 3, 4] (aC (xNew fDct0) (aC (xNew (xLst aN)) (aC (xNew (fCall oList (aC (xV 1) aN))) aN))))
noncomputable def m_law_shape_2 : MS := (sWhile t_law_shape_2 b_law_shape_2b)
noncomputable def m_law_shape_3 : MS := (sRet (xV 3))
noncomputable def m_law_shape : MS := (sSeq m_law_shape_1 (sSeq m_law_shape_2 m_law_shape_3))
noncomputable def F_law_shape : Fn0 := runF 9 m_law_shape
noncomputable def G_law_shape : Fn0 := tellF F_law_shape
/-- 0 many 1 room 2 heap 3 due 4 at -/
noncomputable def m_law_is_chain_right_2b1 : MS := (sEx (xMeth .lst mExtend (xV 2) (aC (xVal (xLst (aC (xCl 3 G_law_header (aC (xC (.int 3)) (aC (xV 4) (aC (xC (.int 1)) aN)))) (aC (xIf (xTst (x2 oLt (x2 oAdd (xV 4) (xC (.int 1))) (xV 0))) (x2 oMul (xC (.int 4)) (x2 oAdd (xV 4) (xC (.int 1)))) (xC (.int 11))) aN)))) aN)))
noncomputable def m_law_is_chain_right_2b2 : MS := (sEx (xMeth .lst mExtend (xV 3) (aC (xVal (xLst (aC (xCl 3 G_law_header (aC (xC (.int 3)) (aC (xV 4) (aC (xC (.int 1)) aN)))) (aC (xIf (xTst (x2 oLt (x2 oAdd (xV 4) (xC (.int 1))) (xV 0))) (x2 oAdd (x2 oMul (xC (.int 2)) (xV 1)) (x2 oMul (xC (.int 4)) (x2 oAdd (xV 4) (xC (.int 1))))) (xC (.int 11))) aN)))) aN)))
noncomputable def b_law_is_chain_right_2b : MS := (sSeq m_law_is_chain_right_2b1 m_law_is_chain_right_2b2)
noncomputable def m_law_is_chain_right_4t1 : MS := (sRet (xC (.bl false)))
noncomputable def b_law_is_chain_right_4t : MS := m_law_is_chain_right_4t1
noncomputable def t_law_is_chain_right_4 : M Bool := (xNot (xTru (xCl 2 G_law_alike (aC (xVal (xLst (aC (xCl 2 G_reached (aC (xV 2) (aC (xTup (aC (xC (.int 0)) aN)) aN))) (aC (xCl 2 G_reached_words (aC (xV 2) (aC (xTup (aC (xC (.int 0)) aN)) aN))) aN)))) (aC (xVal (xLst (aC (xTupR rg3 (aC (xC (.int 0)) (aC (xV 1) (aC (xC (.int 2)) aN)))) (aC (xV 1) aN)))) aN)))))
noncomputable def m_law_is_chain_right_1 : MS := (sPar [1, 2, 3] (aC (x2 oMul (xC (.int 2)) (xV 0)) (aC (xNew (xLst aN)) (aC (xNew (xLst aN)) aN))))
noncomputable def m_law_is_chain_right_2 : MS := (sFor (iOf rng1 (aC (xV 0) aN)) (gN 4) b_law_is_chain_right_2b)
noncomputable def m_law_is_chain_right_3 : MS := (sPar [2, 3] (aC (x2 oAdd (xN fTuple (aC (xV 2) aN)) (x2 oMul (xTup (aC (xC (.int 0)) aN)) (xV 1))) (aC (x2 oAdd (x2 oMul (xTup (aC (xC (.int 0)) aN)) (xV 1)) (xN fTuple (aC (xV 3) aN))) aN)))
noncomputable def m_law_is_chain_right_4 : MS := (sIf t_law_is_chain_right_4 b_law_is_chain_right_4t sNil)
noncomputable def m_law_is_chain_right_5 : MS := (sRet (xCl 2 G_law_alike (aC (xCl 4 G_collected (aC (xV 2) (aC (xV 1) (aC (xC (.int 0)) (aC (xTup (aC (xC (.int 0)) aN)) aN))))) (aC (xTup (aC (xV 3) (aC (x2 oMul (xC (.int 2)) (xV 1)) (aC (xTup (aC (x2 oMul (xC (.int 2)) (xV 1)) aN)) aN)))) aN))))
noncomputable def m_law_is_chain_right : MS := (sSeq m_law_is_chain_right_1 (sSeq m_law_is_chain_right_2 (sSeq m_law_is_chain_right_3 (sSeq m_law_is_chain_right_4 m_law_is_chain_right_5))))
noncomputable def F_law_is_chain_right : Fn0 := runF 5 m_law_is_chain_right
noncomputable def G_law_is_chain_right : Fn0 := tellF F_law_is_chain_right
/-- 0 script 1 bag 2 turn 3 heap 4 room 5 half 6 places 7 roots 8 k 9 shown 10 some 11 words 12 due 13 told 14 again 15 address -/
noncomputable def m_law_2t1 : MS := (sRet (xC (.bl false)))
noncomputable def b_law_2t : MS := m_law_2t1
noncomputable def t_law_2 : M Bool := (xAnd (xTst (x2 oEqA (xCl 2 G_law_take (aC (xV 1) (aC (xC (.int 8)) aN))) (xC (.int 0)))) (xNot (xTru (xCl 1 G_law_is_chain_right (aC (xCl 2 G_law_some (aC (xV 1) (aC (xVal (xLst (aC (xC (.int 700)) (aC (xC (.int 300)) aN)))) aN))) aN)))))
noncomputable def m_law_3b3b1 : MS := (sAsg (x2 oAdd (xV 7) (xTup (aC (xIf (xAnd (xTst (x2 oNe (xV 6) (xVal (xLst aN)))) (xTst (x2 oGt (xCl 2 G_law_take (aC (xV 1) (aC (xC (.int 4)) aN))) (xC (.int 0))))) (x2 oMul (xC (.int 2)) (xCl 2 G_law_some (aC (xV 1) (aC (xV 6) aN)))) (xC (.int 11))) aN))) (gN 7))
noncomputable def b_law_3b3b : MS := m_law_3b3b1
noncomputable def m_law_3b6t1 : MS := (sRet (xC (.bl false)))
noncomputable def b_law_3b6t : MS := m_law_3b6t1
noncomputable def t_law_3b6 : M Bool := (xNot (xTru (xCl 2 G_law_alike (aC (xVal (xLst (aC (xCl 2 G_reached (aC (xV 3) (aC (xV 7) aN))) (aC (xCl 2 G_reached_words (aC (xV 3) (aC (xV 7) aN))) aN)))) (aC (xVal (xLst (aC (xN fTuple (aC (xV 10) aN)) (aC (xV 11) aN)))) aN)))))
noncomputable def m_law_3b9t1 : MS := (sRet (xC (.bl false)))
noncomputable def b_law_3b9t : MS := m_law_3b9t1
noncomputable def t_law_3b9 : M Bool := (xNot (xTru (xCl 2 G_law_alike (aC (xV 13) (aC (xTup (aC (xN fTuple (aC (x2 oIx (xV 12) (xC (.int 0))) aN)) (aC (x2 oIx (xV 12) (xC (.int 1))) (aC (xN fTuple (aC (x2 oIx (xV 12) (xC (.int 2))) aN)) aN)))) aN)))))
noncomputable def m_law_3b10t1 : MS := (sRet (xC (.bl false)))
noncomputable def b_law_3b10t : MS := m_law_3b10t1
noncomputable def t_law_3b10 : M Bool := (xOr (xTst (x2 oNe (xCl 2 G_law_shape (aC (x2 oIx (xV 13) (xC (.int 0))) (aC (x2 oIx (xV 13) (xC (.int 2))) aN))) (xCl 2 G_law_shape (aC (xV 3) (aC (xV 7) aN))))) (xTst (x2 oNe (x2 oIx (xV 13) (xC (.int 1))) (x2 oAdd (x2 oMul (x2 oSub (xC (.int 1)) (xV 5)) (xV 4)) (xV 11)))))
noncomputable def m_law_3b11t1 : MS := (sRet (xC (.bl false)))
noncomputable def b_law_3b11t : MS := m_law_3b11t1
noncomputable def t_law_3b11 : M Bool := (xNot (xTru (xCl 2 G_law_alike (aC (xCl 2 G_reached_words (aC (x2 oIx (xV 13) (xC (.int 0))) (aC (x2 oIx (xV 13) (xC (.int 2))) aN))) (aC (xV 11) aN)))))
noncomputable def m_law_3b13t1 : MS := (sRet (xC (.bl false)))
noncomputable def b_law_3b13t : MS := m_law_3b13t1
noncomputable def t_law_3b13 : M Bool := (xOr (xTst (x2 oNe (x2 oIx (xV 14) (xC (.int 1))) (x2 oAdd (x2 oMul (xV 5) (xV 4)) (xV 11)))) (xTst (x2 oNe (xCl 2 G_law_shape (aC (x2 oIx (xV 14) (xC (.int 0))) (aC (x2 oIx (xV 14) (xC (.int 2))) aN))) (xCl 2 G_law_shape (aC (xV 3) (aC (xV 7) aN))))))
noncomputable def m_law_3b14t1 : MS := (sRet (xC (.bl false)))
noncomputable def b_law_3b14t : MS := m_law_3b14t1
noncomputable def t_law_3b14 : M Bool := (xTst (x2 oNeA (xN fRepr (aC (xVal (xLst (aC (xV 3) (aC (xV 7) aN)))) aN)) (xV 9)))
noncomputable def m_law_3b1 : MS := (sAsg (xCl 1 G_law_heap_drawn (aC (xV 1) aN)) (gT 4 (gsC (gN 3) (gsC (gN 4) (gsC (gN 5) (gsC (gN 6) gsN))))))
noncomputable def m_law_3b2 : MS := (sAsg (xTup aN) (gN 7))
noncomputable def m_law_3b3 : MS := (sFor (iOf rng1 (aC (xCl 2 G_law_take (aC (xV 1) (aC (xC (.int 6)) aN))) aN)) (gN 8) b_law_3b3b)
noncomputable def m_law_3b4 : MS := (sPar [9, 10] (aC (xN fRepr (aC (xVal (xLst (aC (xV 3) (aC (xV 7) aN)))) aN)) (aC (xCl 2 G_law_reached (aC (xV 3) (aC (xV 7) aN))) aN)))
noncomputable def m_law_3b5 : MS := (sAsg (xN fSum (aC (xVal (xLc [15] (iSeq (xV 10)) (gN 15) xYes (x2 oAdd (xC (.int 1)) (xN fLen (aC (x2 oIx (xCl 2 G_law_read (aC (xV 3) (aC (xV 15) aN))) (xC (.int 2))) aN))))) aN)) (gN 11))
noncomputable def m_law_3b6 : MS := (sIf t_law_3b6 b_law_3b6t sNil)
noncomputable def m_law_3b7 : MS := (sAsg (xCl 4 G_law_collected (aC (xV 3) (aC (xV 4) (aC (xV 5) (aC (xVal (fCall oList (aC (xV 7) aN))) aN))))) (gN 12))
noncomputable def m_law_3b8 : MS := (sAsg (xCl 4 G_collected (aC (xV 3) (aC (xV 4) (aC (xV 5) (aC (xV 7) aN))))) (gN 13))
noncomputable def m_law_3b9 : MS := (sIf t_law_3b9 b_law_3b9t sNil)
noncomputable def m_law_3b10 : MS := (sIf t_law_3b10 b_law_3b10t sNil)
noncomputable def m_law_3b11 : MS := (sIf t_law_3b11 b_law_3b11t sNil)
noncomputable def m_law_3b12 : MS := (sAsg (xCl 4 G_collected (aC (x2 oIx (xV 13) (xC (.int 0))) (aC (xV 4) (aC (x2 oSub (xC (.int 1)) (xV 5)) (aC (x2 oIx (xV 13) (xC (.int 2))) aN))))) (gN 14))
noncomputable def m_law_3b13 : MS := (sIf t_law_3b13 b_law_3b13t sNil)
noncomputable def m_law_3b14 : MS := (sIf t_law_3b14 b_law_3b14t sNil)
noncomputable def b_law_3b : MS := (sSeq m_law_3b1 (sSeq m_law_3b2 (sSeq m_law_3b3 (sSeq m_law_3b4 (sSeq m_law_3b5 (sSeq m_law_3b6 (sSeq m_law_3b7 (sSeq m_law_3b8 (sSeq m_law_3b9 (sSeq m_law_3b10 (sSeq m_law_3b11 (sSeq m_law_3b12 (sSeq m_law_3b13 m_law_3b14)))))))))))))
noncomputable def m_law_1 : MS := (sAsg (xCl 1 G_law_bag (aC (xV 0) aN)) (gN 1))
noncomputable def m_law_2 : MS := (sIf t_law_2 b_law_2t sNil)
noncomputable def m_law_3 : MS := (sFor (iOf rng1 (aC (xC (.int 4)) aN)) (gN 2) b_law_3b)
noncomputable def m_law_4 : MS := (sRet (xC (.bl true)))
noncomputable def m_law : MS := (sSeq m_law_1 (sSeq m_law_2 (sSeq m_law_3 m_law_4)))
noncomputable def F_law : Fn0 := runF 16 m_law
noncomputable abbrev G_law : Fn0 := F_law

end K69
end FW

set_option maxHeartbeats 4000000
namespace FW
namespace K69
open PySem L2

/-! ### headers, objects -/
theorem g_many_of (w : Int) (st : Store) : G_many_of [.int w] st = some (.int (w / 10 % 256), st) := by
  refine runF_rt ?_
  simp [m_many_of, m_many_of_1, env0, ev_divI, ev_modI]
theorem g_read_header (w : Int) (st : Store) : G_read_header [.int w] st = some (.tup [.int (w % 10 / 2), .int (w / 10 / 256), .int (w / 10 % 256)], st) := by
  refine runF_rt ?_
  simp [m_read_header, m_read_header_1, m_read_header_2, env0, ev_divI, ev_modI, ev_sSeq_, sizeLine_eq]
theorem g_law_header (s e m : Int) (st : Store) : G_law_header [.int s, .int e, .int m] st = some (.int (2 * (5 * (256 * e + m) + s) + 1), st) := by
  refine runF_rt ?_
  simp [m_law_header, m_law_header_1, env0, ev_mulI]
/-- how many words stand behind the header at a; they; the object whole -/
def mny (hs : List Int) (a : Nat) : Nat := (hs.getD a 0 / 10 % 256).toNat
def fls (hs : List Int) (a : Nat) : List Int := (hs.drop (a + 1)).take (mny hs a)
def siz (hs : List Int) (a : Nat) : Nat := 1 + mny hs a
/-- an object stands at a -/
def At (hs : List Int) (a : Nat) (w : Int) : Prop := hs[a]? = some w ∧ w % 2 = 1 ∧ 0 ≤ w ∧ a + siz hs a ≤ hs.length
theorem At.mny {hs : List Int} {a : Nat} {w : Int} (h : At hs a w) : (mny hs a : Int) = w / 10 % 256 := by
  unfold K69.mny
  rw [List.getD_eq_getElem?_getD, h.1]
  simp only [Option.getD_some]
  omega
theorem At.len {hs : List Int} {a : Nat} {w : Int} (h : At hs a w) : (fls hs a).length = K69.mny hs a := by
  unfold fls
  have := h.2.2.2
  unfold siz at this
  simp only [List.length_take, List.length_drop]
  omega
theorem g_size_at {hs : List Int} {a : Nat} {w : Int} (h : At hs a w) (st : Store) : G_size_at [.tup (iD hs), .int a] st = some (.int (siz hs a), st) := by
  refine runF_rt ?_
  simp [m_size_at, m_size_at_1, env0, ev_ixT (i := a) rfl (iD_get h.1), g_many_of, siz, h.mny]
theorem g_object_at {hs : List Int} {a : Nat} {w : Int} (h : At hs a w) (st : Store) : G_object_at [.tup (iD hs), .int a] st = some (.tup [.int (w % 10 / 2), .int (w / 10 / 256), .tup (iD (fls hs a))], st) := by
  refine runF_rt ?_
  have hm := h.mny
  have hl := h.2.2.2
  unfold siz at hl
  have e : oSl (.tup (iD hs)) (some ((a : Int) + 1)) (some ((a : Int) + 1 + w / 10 % 256)) st = some (.tup (iD (fls hs a)), st) := by
    rw [ev_slT (a := a + 1) (b := a + 1 + mny hs a) (by simp) (by rw [← hm]; simp) (by omega) (by simp; omega), iD_cut]
    simp [fls]
  simp [m_object_at, m_object_at_1, m_object_at_2, env0, ev_ixT (i := a) rfl (iD_get h.1), g_read_header, ev_sSeq_, sizeLine_eq, gT, gsC, e, ev_tupT]
theorem g_law_read {hs : List Int} {a : Nat} {w : Int} (h : At hs a w) (st : Store) : G_law_read [.tup (iD hs), .int a] st = some (.tup [.int (w % 10 / 2), .int (w / 10 / 256), .tup (iD (fls hs a))], st) := by
  refine runF_rt ?_
  have hm := h.mny
  have hl := h.2.2.2
  have ho := h.2.1
  unfold siz at hl
  have e0 : (w - 1) / 2 / 5 % 256 = w / 10 % 256 := by omega
  have e1 : (w - 1) / 2 % 5 = w % 10 / 2 := by omega
  have e2 : (w - 1) / 2 / 1280 = w / 10 / 256 := by omega
  have e : oSl (.tup (iD hs)) (some ((a : Int) + 1)) (some ((a : Int) + 1 + w / 10 % 256)) st = some (.tup (iD (fls hs a)), st) := by
    rw [ev_slT (a := a + 1) (b := a + 1 + mny hs a) (by simp) (by rw [← hm]; simp) (by omega) (by simp; omega), iD_cut]
    simp [fls]
  simp [m_law_read, m_law_read_1, m_law_read_2, m_law_read_3, env0, ev_ixT (i := a) rfl (iD_get h.1), ev_divI, ev_modI, ev_sSeq_, sizeLine_eq, e0, e1, e2, e, ev_tupT]
end K69
end FW

set_option maxHeartbeats 4000000
namespace FW
namespace K69
open PySem L2

/-! ### the bag -/
def bagO (g s p : Int) (cells : List Int) : Ob := .lst [.int g, .int s, .int p, .lst (iD cells)]
def BagOb (o : Ob) : Prop := ∃ g s p cells, o = bagO g s p cells ∧ 0 ≤ g ∧ 0 ≤ s ∧ s < 2147483647 ∧ 0 ≤ p ∧ (∀ c ∈ cells, 0 ≤ c) ∧ cells.length ≤ 63
def Bag (st : Store) (b : Nat) : Prop := ∃ o, st[b]? = some o ∧ BagOb o
theorem bag_len {st : Store} {b : Nat} (h : Bag st b) : b < st.length := by
  obtain ⟨o, h, _⟩ := h
  exact (List.getElem?_eq_some_iff.mp h).1
theorem ev_slL_from {ds : List D} {p : Int} {st : Store} (h : 0 ≤ p) : ∃ k, oSl (.lst ds) (some p) none st = some (.lst (ds.drop k), st) := by
  refine ⟨min p.toNat ds.length, ?_⟩
  show some (D.lst (cutD ds _ _), st) = _
  unfold cutD
  simp only [HT.sIx]
  rw [if_neg (by omega), List.take_of_length_le (by simp)]
theorem head_of {cells : List Int} (hc : ∀ c ∈ cells, 0 ≤ c) (k : Nat) (st : Store) (hl : cells.length ≤ 1000) : ∃ c : Int, 0 ≤ c ∧ oAdd (.lst ((iD cells).drop k)) (.lst [.int 0]) st = some (.lst ((iD cells).drop k ++ [.int 0]), st) ∧ oIx (.lst ((iD cells).drop k ++ [.int 0])) (.int 0) st = some (.int c, st) := by
  have e : oAdd (.lst ((iD cells).drop k)) (.lst [.int 0]) st = some (.lst ((iD cells).drop k ++ [.int 0]), st) := by
    show (match lstOf (.lst ((iD cells).drop k)) st, lstOf (.lst [.int 0]) st with | some a, some b => if a.length + b.length ≤ sizeLine then some (D.lst (a ++ b), st) else none | _, _ => none) = _
    simp only [lstOf]
    rw [if_pos]
    have := sizeLine_big
    simp only [List.length_drop, iD_length, List.length_singleton]
    omega
  cases q : cells.drop k with
  | nil =>
    refine ⟨0, by omega, e, ?_⟩
    rw [show (iD cells).drop k = [] by simp [iD, ← List.map_drop, q]]
    exact ev_ixL (i := 0) rfl rfl
  | cons c r =>
    refine ⟨c, hc c (List.mem_of_mem_drop (i := k) (by rw [q]; simp)), e, ?_⟩
    rw [show (iD cells).drop k = .int c :: iD r by simp [iD, ← List.map_drop, q]]
    exact ev_ixL (i := 0) rfl rfl
theorem ev_oIx_ref {b : Nat} {x : Int} {st : Store} : oIx (.ref b) (.int x) st = match seqOf (.ref b) st with
  | some ds => (match atI ds x with
    | some d => some (d, st)
    | none => none)
  | none => none := rfl
theorem bag_seq {st : Store} {b : Nat} {g s p : Int} {cells : List Int} (h : st[b]? = some (bagO g s p cells)) : seqOf (.ref b) st = some [.int g, .int s, .int p, .lst (iD cells)] := by
  simp only [seqOf, rdlOf, h, bagO]
theorem bag_mut {st : Store} {b : Nat} {g s p : Int} {cells : List Int} (h : st[b]? = some (bagO g s p cells)) : mutL (.ref b) st = some (b, [.int g, .int s, .int p, .lst (iD cells)]) := by
  simp only [mutL, h, bagO]
theorem bag_0 {st : Store} {b : Nat} {g s p : Int} {cells : List Int} (h : st[b]? = some (bagO g s p cells)) : oIx (.ref b) (.int 0) st = some (.int g, st) := by rw [ev_oIx_ref, bag_seq h] <;> rfl
theorem bag_1 {st : Store} {b : Nat} {g s p : Int} {cells : List Int} (h : st[b]? = some (bagO g s p cells)) : oIx (.ref b) (.int 1) st = some (.int s, st) := by rw [ev_oIx_ref, bag_seq h] <;> rfl
theorem bag_2 {st : Store} {b : Nat} {g s p : Int} {cells : List Int} (h : st[b]? = some (bagO g s p cells)) : oIx (.ref b) (.int 2) st = some (.int p, st) := by rw [ev_oIx_ref, bag_seq h] <;> rfl
theorem bag_3 {st : Store} {b : Nat} {g s p : Int} {cells : List Int} (h : st[b]? = some (bagO g s p cells)) : oIx (.ref b) (.int 3) st = some (.lst (iD cells), st) := by rw [ev_oIx_ref, bag_seq h] <;> rfl
theorem bag_s0 {st : Store} {b : Nat} {g s p v : Int} {cells : List Int} (h : st[b]? = some (bagO g s p cells)) : setIx (.ref b) (.int 0) (.int v) st = some (st.set b (bagO v s p cells)) := by unfold setIx; rw [bag_mut h] <;> rfl
theorem bag_s1 {st : Store} {b : Nat} {g s p v : Int} {cells : List Int} (h : st[b]? = some (bagO g s p cells)) : setIx (.ref b) (.int 1) (.int v) st = some (st.set b (bagO g v p cells)) := by unfold setIx; rw [bag_mut h] <;> rfl
theorem bag_s2 {st : Store} {b : Nat} {g s p v : Int} {cells : List Int} (h : st[b]? = some (bagO g s p cells)) : setIx (.ref b) (.int 2) (.int v) st = some (st.set b (bagO g s v cells)) := by unfold setIx; rw [bag_mut h] <;> rfl
theorem bag_g2 {st : Store} {b : Nat} {g s p : Int} {cells : List Int} (h : st[b]? = some (bagO g s p cells)) : oGetM (.ref b) (.int 2) st = some (.int p, st) := by unfold oGetM; rw [bag_mut h] <;> rfl
theorem set_set_ {st : Store} {b : Nat} {o o' : Ob} : (st.set b o).set b o' = st.set b o' := by simp
theorem ten18 : oPow (.int 10) (.int 18) [] = some (.int 1000000000000000000, []) := by rfl
theorem ev_pow {st : Store} : oPow (.int 10) (.int 18) st = some (.int 1000000000000000000, st) := by
  show (if CPow 10 18 then _ else none) = _
  rw [if_pos (by unfold CPow; decide)]
  rfl
section
variable {st : Store} {b : Nat} {g s p : Int} {cells : List Int} {m : Int} {x2 x3 x4 x5 x6 : Option D}
/-- a new cell is drawn -/
theorem take_fill (ho : st[b]? = some (bagO 0 s p cells)) (hs : 0 ≤ s) (hs2 : s < 2147483647) (p3 : 0 ≤ p) (p4 : ∀ c ∈ cells, 0 ≤ c) (p5 : cells.length ≤ 63) :
    ∃ y2 y3 g' s', m_law_take_1 [some (.ref b), some (.int m), x2, x3, x4, x5, x6] st = some (.nx [some (.ref b), some (.int m), y2, y3, x4, x5, x6], st.set b (bagO g' s' (p + 1) cells)) ∧ 0 ≤ g' ∧ 0 ≤ s' ∧ s' < 2147483647 := by
  have hb : b < st.length := (List.getElem?_eq_some_iff.mp ho).1
  obtain ⟨k, hk⟩ := ev_slL_from (ds := iD cells) (st := st) p3
  obtain ⟨c, c0, c1, c2⟩ := head_of p4 k st (by omega)
  have t1 : t_law_take_1 [some (.ref b), some (.int m), x2, x3, x4, x5, x6] st = some (.ok true, st) := by
    simp [t_law_take_1, bag_0 ho, ev_eqI]
  have a1 : m_law_take_1t1 [some (.ref b), some (.int m), x2, x3, x4, x5, x6] st = some (.nx [some (.ref b), some (.int m), some (.int c), x3, x4, x5, x6], st) := by
    simp [m_law_take_1t1, bag_3 ho, bag_2 ho, hk, c1, c2, sizeLine_eq]
  have h2 : (st.set b (bagO 0 s (p + 1) cells))[b]? = some (bagO 0 s (p + 1) cells) := ev_set_get hb
  have a2 : m_law_take_1t2 [some (.ref b), some (.int m), some (.int c), x3, x4, x5, x6] st = some (.nx [some (.ref b), some (.int m), some (.int c), x3, x4, x5, x6], st.set b (bagO 0 s (p + 1) cells)) := by
    simp [m_law_take_1t2, bag_g2 ho, fIp, bag_s2 ho]
  obtain ⟨g', hg', a3⟩ : ∃ g' : Int, 0 ≤ g' ∧ m_law_take_1t3 [some (.ref b), some (.int m), some (.int c), x3, x4, x5, x6] (st.set b (bagO 0 s (p + 1) cells)) = some (.nx [some (.ref b), some (.int m), some (.int c), x3, x4, x5, x6], st.set b (bagO g' s (p + 1) cells)) := by
    by_cases hc : 1000000000000000000 ≤ c
    · refine ⟨c, c0, ?_⟩
      unfold m_law_take_1t3
      rw [ev_if_t (st1 := st.set b (bagO 0 s (p + 1) cells)) (by simp [t_law_take_1t3, ev_pow, hc])]
      simp [b_law_take_1t3t, m_law_take_1t3t1, bag_s0 h2]
    · refine ⟨0, by omega, ?_⟩
      unfold m_law_take_1t3
      rw [ev_if_f (st1 := st.set b (bagO 0 s (p + 1) cells)) (by simp [t_law_take_1t3, ev_pow, hc])]
      simp
  have h3 : (st.set b (bagO g' s (p + 1) cells))[b]? = some (bagO g' s (p + 1) cells) := ev_set_get hb
  have a4 : m_law_take_1t4 [some (.ref b), some (.int m), some (.int c), x3, x4, x5, x6] (st.set b (bagO g' s (p + 1) cells)) = some (.nx [some (.ref b), some (.int m), some (.int c), some (.int (s * 48271 + c % 2147483647 + 7919 * (p + 1))), x4, x5, x6], st.set b (bagO g' s (p + 1) cells)) := by
    simp [m_law_take_1t4, bag_1 h3, bag_2 h3, ev_mulI, ev_modI]
  have a5 : m_law_take_1t5 [some (.ref b), some (.int m), some (.int c), some (.int (s * 48271 + c % 2147483647 + 7919 * (p + 1))), x4, x5, x6] (st.set b (bagO g' s (p + 1) cells)) = some (.nx [some (.ref b), some (.int m), some (.int c), some (.int (s * 48271 + c % 2147483647 + 7919 * (p + 1))), x4, x5, x6], st.set b (bagO g' ((s * 48271 + c % 2147483647 + 7919 * (p + 1)) % 2147483647) (p + 1) cells)) := by
    simp [m_law_take_1t5, ev_modI, bag_s1 h3]
  refine ⟨some (.int c), some (.int (s * 48271 + c % 2147483647 + 7919 * (p + 1))), g', (s * 48271 + c % 2147483647 + 7919 * (p + 1)) % 2147483647, ?_, hg', Int.emod_nonneg _ (by omega), Int.emod_lt_of_pos _ (by omega)⟩
  unfold m_law_take_1
  rw [ev_if_t t1]
  unfold b_law_take_1t
  rw [ev_sSeq a1, ev_sSeq a2, ev_sSeq a3, ev_sSeq a4, a5]
theorem take_draw (ho : st[b]? = some (bagO g s p cells)) (hg : 0 ≤ g) (hs : 0 ≤ s) (hs2 : s < 2147483647) (h0 : 0 < m) (h1 : m < 1073741824) :
    ∃ v g', sSeq m_law_take_2 (sSeq m_law_take_3 (sSeq m_law_take_4 m_law_take_5)) [some (.ref b), some (.int m), x2, x3, x4, x5, x6] st = some (.rt (.int v), st.set b (bagO g' s p cells)) ∧ 0 ≤ v ∧ v < m ∧ 0 ≤ g' := by
  have hb : b < st.length := (List.getElem?_eq_some_iff.mp ho).1
  by_cases hp : 0 < g
  · refine ⟨g % m, g / m, ?_, Int.emod_nonneg _ (by omega), Int.emod_lt_of_pos _ h0, Int.ediv_nonneg hg (by omega)⟩
    refine ev_sSeq_rt ?_
    unfold m_law_take_2
    rw [ev_if_t (st1 := st) (by simp [t_law_take_2, bag_0 ho, hp])]
    unfold b_law_take_2t
    rw [ev_sSeq (e1 := [some (.ref b), some (.int m), x2, x3, some (.int (g % m)), x5, x6]) (st1 := st) (by simp [m_law_take_2t1, bag_0 ho, ev_modI h0])]
    rw [ev_sSeq (e1 := [some (.ref b), some (.int m), x2, x3, some (.int (g % m)), x5, x6]) (st1 := st.set b (bagO (g / m) s p cells)) (by simp [m_law_take_2t2, bag_0 ho, ev_divI h0 h1, bag_s0 ho])]
    simp [m_law_take_2t3]
  · have e : g = 0 := by omega
    subst e
    refine ⟨(((s + 1) * 39373 % 1000000007) * ((s + 1) * 39373 % 1000000007) % 998244353 * 30011 % 998244353 / 7) % m, 0, ?_, Int.emod_nonneg _ (by omega), Int.emod_lt_of_pos _ h0, by omega⟩
    have same : st.set b (bagO 0 s p cells) = st := by
      apply List.ext_getElem?
      intro i
      rw [List.getElem?_set]
      split
      · rename_i hi; subst hi; first | exact ho.symm | (rw [if_pos hb, ho])
      · rfl
    rw [same]
    rw [ev_sSeq (e1 := [some (.ref b), some (.int m), x2, x3, x4, x5, x6]) (st1 := st) (by
      unfold m_law_take_2
      rw [ev_if_f (st1 := st) (by simp [t_law_take_2, bag_0 ho])]
      simp)]
    have b1 := Int.emod_nonneg ((s + 1) * 39373) (show (1000000007 : Int) ≠ 0 by omega)
    have b2 := Int.emod_lt_of_pos ((s + 1) * 39373) (show (0 : Int) < 1000000007 by omega)
    generalize hbg : (s + 1) * 39373 % 1000000007 = bg at *
    rw [ev_sSeq (e1 := [some (.ref b), some (.int m), x2, x3, x4, some (.int bg), x6]) (st1 := st) (by simp [m_law_take_3, bag_1 ho, ev_modI, ev_mulI, hbg])]
    rw [ev_sSeq (e1 := [some (.ref b), some (.int m), x2, x3, x4, some (.int bg), some (.int (bg * bg % 998244353 * 30011 % 998244353))]) (st1 := st) (by
      simp [m_law_take_4, ev_modI, ev_mulI (Or.inl ⟨by omega, by omega⟩ : -(2 ^ 64) < bg ∧ bg < 2 ^ 64 ∨ -(2 ^ 64) < bg ∧ bg < 2 ^ 64), ev_mulI])]
    simp [m_law_take_5, ev_divI, ev_modI h0]
end
theorem g_take {st : Store} {b : Nat} (h : Bag st b) {m : Int} (h0 : 0 < m) (h1 : m < 1073741824) : ∃ v o, G_law_take [.ref b, .int m] st = some (.int v, st.set b o) ∧ 0 ≤ v ∧ v < m ∧ BagOb o := by
  have hb := bag_len h
  obtain ⟨o, ho, g, s, p, cells, rfl, p0, p1, p2, p3, p4, p5⟩ := h
  by_cases hg : g = 0
  · subst hg
    obtain ⟨y2, y3, g', s', a1, a2, a3, a4⟩ := take_fill (m := m) (x2 := none) (x3 := none) (x4 := none) (x5 := none) (x6 := none) ho p1 p2 p3 p4 p5
    obtain ⟨v, g2, c1, c2, c3, c4⟩ := take_draw (x2 := y2) (x3 := y3) (x4 := none) (x5 := none) (x6 := none) (ev_set_get (o := bagO g' s' (p + 1) cells) hb) a2 a3 a4 h0 h1
    rw [List.set_set] at c1
    refine ⟨v, _, runF_rt ?_, c2, c3, g2, s', p + 1, cells, rfl, c4, a3, a4, by omega, p4, p5⟩
    unfold m_law_take
    rw [show env0 7 [.ref b, .int m] = [some (.ref b), some (.int m), none, none, none, none, none] from rfl, ev_sSeq a1]
    exact c1
  · obtain ⟨v, g2, c1, c2, c3, c4⟩ := take_draw (x2 := none) (x3 := none) (x4 := none) (x5 := none) (x6 := none) ho p0 p1 p2 h0 h1
    refine ⟨v, _, runF_rt ?_, c2, c3, g2, s, p, cells, rfl, c4, p1, p2, p3, p4, p5⟩
    unfold m_law_take
    rw [show env0 7 [.ref b, .int m] = [some (.ref b), some (.int m), none, none, none, none, none] from rfl]
    rw [ev_sSeq (e1 := [some (.ref b), some (.int m), none, none, none, none, none]) (st1 := st) (by
      unfold m_law_take_1
      rw [ev_if_f (st1 := st) (by simp [t_law_take_1, bag_0 ho, ev_eqI, hg])]
      simp)]
    exact c1
theorem fLen_seq {d : D} {ds : List D} {st : Store} (h : seqOf d st = some ds) : fLen [d] st = some (.int ds.length, st) := by
  cases d with
  | str z => cases h
  | _ => simp only [fLen, h]
theorem oIx_seq {d v : D} {ds : List D} {x : Int} {i : Nat} {st : Store} (h : seqOf d st = some ds) (hx : x = (i : Int)) (hv : ds[i]? = some v) : oIx d (.int x) st = some (v, st) := by
  subst hx
  cases d with
  | str z => cases h
  | _ => simp only [oIx, h, atI_nat, hv]
theorem g_some {st : Store} {b : Nat} (h : Bag st b) {things : D} {ds : List D} (h0 : seqOf things st = some ds) (hq : ∀ o, BagOb o → seqOf things (st.set b o) = some ds) (hl : 0 < ds.length) (hl2 : ds.length < 100000) :
    ∃ v o, v ∈ ds ∧ G_law_some [.ref b, things] st = some (v, st.set b o) ∧ BagOb o := by
  obtain ⟨i, o, h1, h2, h3, h4⟩ := g_take h (m := (ds.length : Int)) (by omega) (by omega)
  obtain ⟨v, hv⟩ : ∃ v, ds[i.toNat]? = some v := ⟨ds[i.toNat]'(by omega), by simp⟩
  refine ⟨v, o, List.mem_of_getElem? hv, runF_rt ?_, h4⟩
  simp [m_law_some, m_law_some_1, env0, fLen_seq h0, h1, oIx_seq (hq o h4) (show i = (i.toNat : Int) by omega) hv]
theorem seqOf_lst {ds : List D} {st : Store} : seqOf (.lst ds) st = some ds := rfl
/-- of a list written out -/
theorem g_someL {st : Store} {b : Nat} (h : Bag st b) {ds : List D} (hl : 0 < ds.length) (hl2 : ds.length < 100000) : ∃ v o, v ∈ ds ∧ G_law_some [.ref b, .lst ds] st = some (v, st.set b o) ∧ BagOb o :=
  g_some h seqOf_lst (fun _ _ => seqOf_lst) hl hl2
theorem Bag.set {st : Store} {b : Nat} {o : Ob} (h : Bag st b) (ho : BagOb o) : Bag (st.set b o) b := ⟨o, ev_set_get (bag_len h), ho⟩
/-- the bag is made -/
theorem iD_take {ns : List Int} {k : Nat} : (iD ns).take k = iD (ns.take k) := by simp [iD, List.map_take]
theorem g_law_bag {script : List Int} {st : Store} {n : Nat} (hs : st[n]? = some (.flst (iD script))) : ∃ o, G_law_bag [.ref n] st = some (.ref st.length, st ++ [o]) ∧ BagOb o := by
  have cut : cutD (iD script) none (some 63) = iD (script.take 63) := by
    unfold cutD
    have e1 : HT.sIx (iD script).length 0 none = 0 := rfl
    have e2 : HT.sIx (iD script).length (iD script).length (some 63) = min 63 script.length := by
      rw [show ((63 : Int)) = ((63 : Nat) : Int) from rfl, HT.sIx_nat]
      simp
    rw [e1, e2, List.drop_zero, Nat.sub_zero, iD_take]
    congr 1
    rcases Nat.le_total 63 script.length with h | h
    · rw [Nat.min_eq_left h]
    · rw [Nat.min_eq_right h, List.take_of_length_le (Nat.le_refl _), List.take_of_length_le h]
  have sl : oSl (.ref n) none (some 63) st = some (.lst (iD (script.take 63)), st) := by
    show (match rdlOf (.ref n) st with | some ds => some (D.lst (cutD ds none (some 63)), st) | none => none) = _
    simp only [rdlOf, hs, cut]
  have lc : ∀ e : Env, e.length = 2 → lcL ⟨iD (script.take 63), []⟩ (gN 1) xYes (xN fAbs (aC (xV 1) aN)) e (iD (script.take 63)) [] st = some (.ok (.lst (iD ((script.take 63).map fun i => if i < 0 then -i else i))), st) := by
    intro e he
    rw [lcL_map hold_none (iD (script.take 63)) [] (fun d => match d with | .int i => .int (if i < 0 then -i else i) | d => d) (fun d => e.set 1 (some d))]
    · simp [iD, Function.comp_def]
    · intro d hd
      simp only [iD, List.mem_map] at hd
      obtain ⟨i, _, rfl⟩ := hd
      refine ⟨rfl, ?_⟩
      have g : (e.set 1 (some (D.int i)))[1]? = some (some (D.int i)) := by simp [he]
      simp [ev_xV g, fAbs]
    · have := sizeLine_big
      simp only [List.length_nil, iD_length, List.length_take]
      omega
  refine ⟨bagO 0 1234567891 0 ((script.take 63).map fun i => if i < 0 then -i else i), runF_rt ?_, 0, 1234567891, 0, _, rfl, by omega, by omega, by omega, by omega, ?_, ?_⟩
  · simp [m_law_bag, m_law_bag_1, env0, ev_xLc, sl, itV, wipeE, lc, sizeLine_eq, bagO]
  · intro c hc
    simp only [List.mem_map] at hc
    obtain ⟨i, _, rfl⟩ := hc
    split <;> omega
  · simp only [List.length_map, List.length_take]; omega
end K69
end FW

set_option maxHeartbeats 4000000
namespace FW
namespace K69
open PySem L2

/-! ### heaps, in the plain -/
/-- a word that is an immediate or points to one of A -/
def Wd (A : Nat → Prop) (w : Int) : Prop := w % 2 = 1 ∨ ∃ b : Nat, w = 2 * (b : Int) ∧ A b
structure Good (hs : List Int) (A : Nat → Prop) (room : Nat) : Prop where
  at_ : ∀ a, A a → ∃ w, At hs a w
  fl : ∀ a, A a → ∀ f ∈ fls hs a, Wd A f
  fit : ∀ l : List Nat, l.Nodup → (∀ a ∈ l, A a) → (l.map (siz hs)).sum ≤ room
theorem siz_pos {hs : List Int} {a : Nat} : 1 ≤ siz hs a := by unfold siz; omega
theorem sum_len {hs : List Int} : ∀ l : List Nat, l.length ≤ (l.map (siz hs)).sum
  | [] => by simp
  | a :: l => by
    have := sum_len (hs := hs) l
    have := siz_pos (hs := hs) (a := a)
    simp only [List.length_cons, List.map_cons, List.sum_cons]
    omega
theorem mny_le {hs : List Int} {a : Nat} : mny hs a ≤ 255 := by unfold mny; omega
theorem fls_le {hs : List Int} {a : Nat} : (fls hs a).length ≤ 255 := by
  have := mny_le (hs := hs) (a := a)
  unfold fls
  simp only [List.length_take]
  omega
theorem Good.few {hs : List Int} {A : Nat → Prop} {room : Nat} (G : Good hs A room) {l : List Nat} (h : l.Nodup) (h2 : ∀ a ∈ l, A a) : l.length ≤ room := Nat.le_trans (sum_len l) (G.fit l h h2)

/-- depth first: the last word of the line is taken -/
inductive Dfs (hs : List Int) : List Nat → List Int → List Nat → Prop
  | done {F} : Dfs hs F [] F
  | odd {F l w F'} : w % 2 = 1 → Dfs hs F l F' → Dfs hs F (l ++ [w]) F'
  | old {F l F'} {a : Nat} : a ∈ F → Dfs hs F l F' → Dfs hs F (l ++ [2 * (a : Int)]) F'
  | new {F l F'} {a : Nat} : a ∉ F → Dfs hs (F ++ [a]) (l ++ fls hs a) F' → Dfs hs F (l ++ [2 * (a : Int)]) F'
theorem nodup_snoc {F : List Nat} {a : Nat} (h : F.Nodup) (n : a ∉ F) : (F ++ [a]).Nodup := by
  rw [List.nodup_append]
  exact ⟨h, by simp, fun x hx y hy => by simp at hy; subst hy; intro z; subst z; exact n hx⟩
theorem list_snoc {α : Type} {l : List α} (h : l ≠ []) : ∃ m x, l = m ++ [x] := ⟨l.dropLast, l.getLast h, (List.dropLast_concat_getLast h).symm⟩
theorem Dfs.ex {hs : List Int} {A : Nat → Prop} {room : Nat} (G : Good hs A room) : ∀ (n : Nat) (F : List Nat) (l : List Int), (room + 1 - F.length) * 300 + l.length ≤ n → F.Nodup → (∀ a ∈ F, A a) → (∀ w ∈ l, Wd A w) → ∃ F', Dfs hs F l F'
  | n, F, l, hn, hF, hA, hl => by
    by_cases e : l = []
    · subst e; exact ⟨F, .done⟩
    obtain ⟨m, w, rfl⟩ := list_snoc e
    have few := G.few hF hA
    have hm : ∀ v ∈ m, Wd A v := fun v hv => hl v (List.mem_append_left _ hv)
    simp only [List.length_append, List.length_singleton] at hn
    cases n with
    | zero => omega
    | succ n =>
      rcases hl w (by simp) with h1 | ⟨a, rfl, hb⟩
      · obtain ⟨F', d⟩ := Dfs.ex G n F m (by omega) hF hA hm
        exact ⟨F', .odd h1 d⟩
      · by_cases ha : a ∈ F
        · obtain ⟨F', d⟩ := Dfs.ex G n F m (by omega) hF hA hm
          exact ⟨F', .old ha d⟩
        · have few2 := G.few (nodup_snoc hF ha) (fun x hx => by
            rcases List.mem_append.mp hx with h | h
            · exact hA x h
            · simp at h; subst h; exact hb)
          simp only [List.length_append, List.length_singleton] at few2
          obtain ⟨F', d⟩ := Dfs.ex G n (F ++ [a]) (m ++ fls hs a) (by
            have := fls_le (hs := hs) (a := a)
            simp only [List.length_append, List.length_singleton]
            omega) (nodup_snoc hF ha) (fun x hx => by
            rcases List.mem_append.mp hx with h | h
            · exact hA x h
            · simp at h; subst h; exact hb) (fun v hv => by
            rcases List.mem_append.mp hv with h | h
            · exact hm v h
            · exact G.fl a hb v h)
          exact ⟨F', .new ha d⟩
structure DfsP (hs : List Int) (F : List Nat) (l : List Int) (F' : List Nat) : Prop where
  sub : ∀ a ∈ F, a ∈ F'
  nd : F.Nodup → F'.Nodup
  line : ∀ a : Nat, 2 * (a : Int) ∈ l → a ∈ F'
  cl : ∀ a ∈ F', a ∈ F ∨ ∀ b : Nat, 2 * (b : Int) ∈ fls hs a → b ∈ F'
  snd : ∀ P : Nat → Prop, (∀ a, P a → ∀ b : Nat, 2 * (b : Int) ∈ fls hs a → P b) → (∀ a ∈ F, P a) → (∀ a : Nat, 2 * (a : Int) ∈ l → P a) → ∀ a ∈ F', P a
theorem Dfs.props {hs : List Int} {F F' : List Nat} {l : List Int} (d : Dfs hs F l F') : DfsP hs F l F' := by
  induction d with
  | done => exact ⟨fun _ h => h, fun h => h, fun _ h => by simp at h, fun _ h => .inl h, fun P _ h _ => h⟩
  | odd h1 _ ih =>
    refine ⟨ih.sub, ih.nd, fun a ha => ?_, ih.cl, fun P h h2 h3 => ih.snd P h h2 fun a ha => h3 a (List.mem_append_left _ ha)⟩
    rcases List.mem_append.mp ha with h | h
    · exact ih.line a h
    · simp at h; omega
  | @old F l F' c h1 _ ih =>
    refine ⟨ih.sub, ih.nd, fun a ha => ?_, ih.cl, fun P h h2 h3 => ih.snd P h h2 fun a ha => h3 a (List.mem_append_left _ ha)⟩
    rcases List.mem_append.mp ha with h | h
    · exact ih.line a h
    · simp only [List.mem_singleton] at h
      have e : a = c := by omega
      rw [e]
      exact ih.sub _ h1
  | @new F l F' a h1 _ ih =>
    refine ⟨fun x hx => ih.sub x (List.mem_append_left _ hx), fun h => ih.nd (nodup_snoc h h1), fun x hx => ?_, fun x hx => ?_, fun P h h2 h3 => ih.snd P h (fun x hx => ?_) fun x hx => ?_⟩
    · rcases List.mem_append.mp hx with h | h
      · exact ih.line x (List.mem_append_left _ h)
      · simp only [List.mem_singleton] at h
        have e : x = a := by omega
        rw [e]
        exact ih.sub _ (by simp)
    · rcases ih.cl x hx with h | h
      · rcases List.mem_append.mp h with h | h
        · exact .inl h
        · simp at h
          subst h
          exact .inr fun b hb => ih.line b (List.mem_append_right _ hb)
      · exact .inr h
    · rcases List.mem_append.mp hx with h' | h'
      · exact h2 x h'
      · simp at h'; subst h'; exact h3 _ (by simp)
    · rcases List.mem_append.mp hx with h' | h'
      · exact h3 x (List.mem_append_left _ h')
      · exact h a (h3 a (by simp)) x h'
end K69
end FW

set_option maxHeartbeats 4000000
namespace FW
namespace K69
open PySem L2

section
variable {st : Store} {a b c a' b' c' : Ob}
theorem at0 {g : Store} : (st ++ a :: g)[st.length]? = some a := by simp
theorem at1 {g : Store} : (st ++ a :: b :: g)[st.length + 1]? = some b := by simp
theorem at2 {g : Store} : (st ++ a :: b :: c :: g)[st.length + 2]? = some c := by simp
theorem set0 {g : Store} : (st ++ a :: g).set st.length a' = st ++ a' :: g := by simp
theorem set1 {g : Store} : (st ++ a :: b :: g).set (st.length + 1) b' = st ++ a :: b' :: g := by
  rw [List.set_append_right _ _ (by omega)]
  simp
theorem set2 {g : Store} : (st ++ a :: b :: c :: g).set (st.length + 2) c' = st ++ a :: b :: c' :: g := by
  rw [List.set_append_right _ _ (by omega)]
  simp
end
/-! ### ints as data -/
def pI (ns : List Int) : List PyData := ns.map PyData.int
theorem pds_iD {st : Store} : ∀ {ns : List Int}, PDs st (iD ns) (pI ns)
  | [] => .nil
  | _ :: _ => .cons (.int _) pds_iD
theorem canI : ∀ {ns : List Int}, PyData.canLayAll0 (pI ns) = true
  | [] => by simp [pI, PyData.canLayAll0]
  | n :: ns => by
    have := canI (ns := ns)
    simp only [pI] at this
    simp only [pI, List.map_cons, PyData.canLayAll0, PyData.canLay0, this, Bool.and_self]
theorem depI : ∀ {ns : List Int}, PyData.depthAll (pI ns) = 0
  | [] => by simp [pI, PyData.depthAll]
  | n :: ns => by
    have := depI (ns := ns)
    simp only [pI] at this
    simp only [pI, List.map_cons, PyData.depthAll, PyData.depth, this, Nat.max_self]
theorem shL {ns : List Int} : SeqAt.shaped (.list (pI ns)) = true := by simp [SeqAt.shaped, PyData.canLay0, PyData.depth, canI, depI]
theorem shT {ns : List Int} : SeqAt.shaped (.tuple (pI ns)) = true := by simp [SeqAt.shaped, PyData.canLay0, PyData.depth, canI, depI]
theorem pd_lst {st : Store} {ns : List Int} : PD st (.lst (iD ns)) (.list (pI ns)) := .lst pds_iD
theorem pd_ref {st : Store} {k : Nat} {ns : List Int} (h : st[k]? = some (.lst (iD ns))) : PD st (.ref k) (.list (pI ns)) := .ref h pds_iD
theorem pd_tup {st : Store} {ns : List Int} : PD st (.tup (iD ns)) (.tuple (pI ns)) := .tup pds_iD
theorem ev_neE {st : Store} {d : D} {l : List Int} (h : PD st d (.list (pI l))) : oNe d (.lst []) st = some (.bl (!l.isEmpty), st) := by
  show oData (fun p q => !PyData.eqv p q) _ _ _ = _
  rw [oData_of h (show PD st (.lst []) (.list (pI [])) from pd_lst (ns := [])) shL shL]
  cases l <;> simp [pI, PyData.eqv, PyData.eqvAll]
/-! ### a dict whose keys are numbers -/
def nD (l : List Nat) : List D := l.map fun (a : Nat) => D.int (a : Int)
theorem nD_mem {l : List Nat} {a : Nat} : D.int (a : Int) ∈ nD l ↔ a ∈ l := by
  unfold nD
  rw [List.mem_map]
  constructor
  · rintro ⟨x, hx, e⟩
    cases e
    exact hx
  · exact fun h => ⟨a, h, rfl⟩
theorem nD_len {l : List Nat} : (nD l).length = l.length := by simp [nD]
theorem nD_iD {l : List Nat} : nD l = iD (l.map fun (a : Nat) => (a : Int)) := by simp [nD, iD]
theorem dPut_new {ks ds : List D} {x v : D} (h : x ∉ ks) : dPut ks ds x v = (ks ++ [x], ds ++ [v]) := by unfold dPut; rw [if_neg h]
theorem dGet_none {ks ds : List D} {x : D} (h : x ∉ ks) : dGet ks ds x = none := by
  induction ks generalizing ds with
  | nil => cases ds <;> rfl
  | cons k ks ih =>
    cases ds with
    | nil => rfl
    | cons d ds =>
      simp only [List.mem_cons, not_or] at h
      simp only [dGet]
      rw [if_neg (fun z => h.1 z.symm)]
      exact ih h.2
theorem dGet_map {α : Type} {f g : α → D} (hf : ∀ x y, f x = f y → x = y) : ∀ {l : List α} {a : α}, a ∈ l → dGet (l.map f) (l.map g) (f a) = some (g a)
  | [], _, h => by simp at h
  | x :: l, a, h => by
    simp only [List.map_cons, dGet]
    by_cases e : f x = f a
    · rw [if_pos e, hf _ _ e]
    · rw [if_neg e]
      exact dGet_map hf (by
        rcases List.mem_cons.mp h with h | h
        · subst h; exact absurd rfl e
        · exact h)
theorem dct_ref {st : Store} {k : Nat} {ks ds : List D} (h : st[k]? = some (.dct ks ds)) : dctOf (.ref k) st = some (ks, ds) := by simp only [dctOf, h]
theorem mutD_ref {st : Store} {k : Nat} {ks ds : List D} (h : st[k]? = some (.dct ks ds)) : mutD (.ref k) st = some (k, ks, ds) := by simp only [mutD, h]
theorem mutL_ref {st : Store} {k : Nat} {ds : List D} (h : st[k]? = some (.lst ds)) : mutL (.ref k) st = some (k, ds) := by simp only [mutL, h]
theorem mutL_dct {st : Store} {k : Nat} {ks ds : List D} (h : st[k]? = some (.dct ks ds)) : mutL (.ref k) st = none := by simp only [mutL, h]
theorem rdl_ref {st : Store} {k : Nat} {ds : List D} (h : st[k]? = some (.lst ds)) : rdlOf (.ref k) st = some ds := by simp only [rdlOf, h]
theorem seq_ref {st : Store} {k : Nat} {ds : List D} (h : st[k]? = some (.lst ds)) : seqOf (.ref k) st = some ds := by simp only [seqOf, rdlOf, h]
theorem tyL_ref {st : Store} {k : Nat} {ds : List D} (h : st[k]? = some (.lst ds)) : tyD .lst (.ref k) st = true := by simp only [tyD, rdlOf, h, Option.isSome_some]
theorem setIx_dct {st : Store} {k : Nat} {ks ds : List D} {i v : D} (h : st[k]? = some (.dct ks ds)) (hk : (keyD i).isSome = true) (hl : ks.length < sizeLine) : setIx (.ref k) i v st = some (st.set k (.dct (dPut ks ds i v).1 (dPut ks ds i v).2)) := by
  unfold setIx
  rw [mutL_dct h]
  simp only [mutD_ref h, hk, hl, and_self, if_true]
theorem pop_ref {st : Store} {k : Nat} {l : List Int} {w : Int} (h : st[k]? = some (.lst (iD (l ++ [w])))) : mPop (.ref k) [] st = some (.int w, st.set k (.lst (iD l))) := by
  unfold mPop
  rw [mutL_ref h]
  simp
theorem ext_ref {st : Store} {k : Nat} {l m : List Int} (h : st[k]? = some (.lst (iD l))) (hl : l.length + m.length ≤ sizeLine) : mExtend (.ref k) [.tup (iD m)] st = some (.non, st.set k (.lst (iD (l ++ m)))) := by
  unfold mExtend
  rw [mutL_ref h]
  simp [hl]
theorem app_ref {st : Store} {k : Nat} {ds : List D} {d : D} (h : st[k]? = some (.lst ds)) (hl : ds.length < sizeLine) : mAppend (.ref k) [d] st = some (.non, st.set k (.lst (ds ++ [d]))) := by
  unfold mAppend
  rw [mutL_ref h]
  simp [hl]
theorem ix30 {a b c : D} {st : Store} : oIx (.tup [a, b, c]) (.int 0) st = some (a, st) := rfl
theorem ix31 {a b c : D} {st : Store} : oIx (.tup [a, b, c]) (.int 1) st = some (b, st) := rfl
theorem ix32 {a b c : D} {st : Store} : oIx (.tup [a, b, c]) (.int 2) st = some (c, st) := rfl
theorem keyI {i : Int} : (keyD (.int i)).isSome = true := rfl
theorem half {a : Int} : 2 * a / 2 = a := by omega
theorem even {a : Int} : 2 * a % 2 = 0 := by omega

/-! ### reached: the collector's own going on -/
section
variable {hs : List Int} {R : D} {A : Nat → Prop} {room : Nat}
/-- the objects of its own -/
def rS (F : List Nat) (l : List Int) : Store := [.dct (nD F) (F.map fun _ => D.bl true), .lst (iD l)]
def rE (hs : List Int) (R : D) (n : Nat) (x : Option D) : Env := [some (.tup (iD hs)), some R, some (.ref n), some (.ref (n + 1)), x]
theorem rcond {st : Store} {F : List Nat} {l : List Int} {x : Option D} : t_reached_2 (rE hs R st.length x) (st ++ rS F l) = some (.ok (!l.isEmpty), st ++ rS F l) := by
  have h : (st ++ rS F l)[st.length + 1]? = some (.lst (iD l)) := at1
  simp [t_reached_2, rE, ev_neE (pd_ref h), sizeLine_eq]
theorem rcond_t {st : Store} {F : List Nat} {l : List Int} {w : Int} {x : Option D} : t_reached_2 (rE hs R st.length x) (st ++ rS F (l ++ [w])) = some (.ok true, st ++ rS F (l ++ [w])) := by rw [rcond]; simp
theorem rpop {st : Store} {F : List Nat} {l : List Int} {w : Int} {x : Option D} : m_reached_2b1 (rE hs R st.length x) (st ++ rS F (l ++ [w])) = some (.nx (rE hs R st.length (some (.int w))), st ++ rS F l) := by
  have h : (st ++ rS F (l ++ [w]))[st.length + 1]? = some (.lst (iD (l ++ [w]))) := at1
  have s : (st ++ rS F (l ++ [w])).set (st.length + 1) (.lst (iD l)) = st ++ rS F l := set1
  simp [m_reached_2b1, rE, tyL_ref h, pop_ref h, s]
theorem ev_din {k : Nat} {ks ds : List D} {i : Int} {neg : Bool} {st : Store} (h : st[k]? = some (.dct ks ds)) : oDIn neg (.int i) (.ref k) st = some (.bl (if neg then !(dGet ks ds (.int i)).isSome else (dGet ks ds (.int i)).isSome), st) := by
  unfold oDIn
  rw [dct_ref h]
  simp only [keyI, if_true]
theorem rtest_odd {st : Store} {F : List Nat} {l : List Int} {w : Int} (h : w % 2 = 1) : t_reached_2b2 (rE hs R st.length (some (.int w))) (st ++ rS F l) = some (.ok false, st ++ rS F l) :=
  ev_and_f (by simp [rE, ev_modI, ev_eqI, h])
theorem rtest_in {st : Store} {F : List Nat} {l : List Int} {a : Nat} (b : Bool) (h : (dGet (nD F) (F.map fun _ => D.bl true) (.int (a : Int))).isSome = b) : t_reached_2b2 (rE hs R st.length (some (.int (2 * (a : Int))))) (st ++ rS F l) = some (.ok (!b), st ++ rS F l) := by
  have h0 : (st ++ rS F l)[st.length]? = some (.dct (nD F) (F.map fun _ => D.bl true)) := at0
  refine (ev_and_t (st1 := st ++ rS F l) (by simp [rE, ev_modI, ev_eqI])).trans ?_
  simp [rE, ev_divI, half, ev_din h0, h]
theorem rmark {st : Store} {F : List Nat} {l : List Int} {a : Nat} (h : a ∉ F) (hF : F.length < 1000000) : m_reached_2b2t1 (rE hs R st.length (some (.int (2 * (a : Int))))) (st ++ rS F l) = some (.nx (rE hs R st.length (some (.int (2 * (a : Int))))), st ++ rS (F ++ [a]) l) := by
  have h0 : (st ++ rS F l)[st.length]? = some (.dct (nD F) (F.map fun _ => D.bl true)) := at0
  have g : gIx (xV 2) (x2 oFdiv (xV 4) (xC (.int 2))) (.bl true) (rE hs R st.length (some (.int (2 * (a : Int))))) (st ++ rS F l) = some (rE hs R st.length (some (.int (2 * (a : Int)))), st ++ rS (F ++ [a]) l) := by
    rw [ev_gIx (o := .ref st.length) (i := .int a) (st1 := st ++ rS F l) (st2 := st ++ rS F l) (by simp [rE]) (by simp [rE, ev_divI, half])]
    have := sizeLine_big
    rw [setIx_dct h0 keyI (by rw [nD_len]; omega), dPut_new (fun z => h (nD_mem.mp z))]
    simp [rS, nD]
  simp [m_reached_2b2t1, g]
theorem rline {st : Store} {F : List Nat} {l : List Int} {a : Nat} {w : Int} (ha : At hs a w) (hl : l.length + 300 ≤ 1000000) : m_reached_2b2t2 (rE hs R st.length (some (.int (2 * (a : Int))))) (st ++ rS F l) = some (.nx (rE hs R st.length (some (.int (2 * (a : Int))))), st ++ rS F (l ++ fls hs a)) := by
  have h1 : (st ++ rS F l)[st.length + 1]? = some (.lst (iD l)) := at1
  have s : (st ++ rS F l).set (st.length + 1) (.lst (iD l ++ iD (fls hs a))) = st ++ rS F (l ++ fls hs a) := by
    rw [show st ++ rS F (l ++ fls hs a) = st ++ [.dct (nD F) (F.map fun _ => D.bl true), .lst (iD l ++ iD (fls hs a))] by simp [rS]]
    exact set1
  have := sizeLine_big
  have := fls_le (hs := hs) (a := a)
  simp [m_reached_2b2t2, rE, tyL_ref h1, ev_divI, half, g_object_at ha, ix32, ext_ref h1 (show l.length + (fls hs a).length ≤ sizeLine by omega), s]
theorem rloop {F F' : List Nat} {l : List Int} (d : Dfs hs F l F') : ∀ (st : Store) (x : Option D), Good hs A room → room ≤ 3000 → (∀ a ∈ F, A a) → F.Nodup → (∀ w ∈ l, Wd A w) → l.length + (room - F.length) * 300 ≤ 900000 →
    ∃ x', WhR t_reached_2 b_reached_2b (rE hs R st.length x) (st ++ rS F l) (.nx (rE hs R st.length x'), st ++ rS F' []) := by
  induction d with
  | done => exact fun st x _ _ _ _ _ _ => ⟨x, .stop (by rw [rcond]; rfl)⟩
  | @odd F l w F' h d ih =>
    intro st x G hr hA hF hl hm
    obtain ⟨x', k⟩ := ih st (some (.int w)) G hr hA hF (fun v hv => hl v (List.mem_append_left _ hv)) (by simp at hm; omega)
    refine ⟨x', .next rcond_t ?_ k⟩
    unfold b_reached_2b
    rw [ev_sSeq rpop]
    unfold m_reached_2b2
    rw [ev_if_f (rtest_odd h)]
    rfl
  | @old F l F' a h d ih =>
    intro st x G hr hA hF hl hm
    obtain ⟨x', k⟩ := ih st (some (.int (2 * (a : Int)))) G hr hA hF (fun v hv => hl v (List.mem_append_left _ hv)) (by simp at hm; omega)
    refine ⟨x', .next rcond_t ?_ k⟩
    unfold b_reached_2b
    rw [ev_sSeq rpop]
    unfold m_reached_2b2
    rw [ev_if_f (rtest_in true (by rw [nD, dGet_map (fun x y e => by cases e; rfl) h]; rfl))]
    rfl
  | @new F l F' a h d ih =>
    intro st x G hr hA hF hl hm
    have hb : A a := by
      rcases hl (2 * (a : Int)) (by simp) with z | ⟨b, z, hb⟩
      · omega
      · rwa [show a = b by omega]
    have hF2 := nodup_snoc hF h
    have hA2 : ∀ x ∈ F ++ [a], A x := fun x hx => by
      rcases List.mem_append.mp hx with z | z
      · exact hA x z
      · simp at z; subst z; exact hb
    have few := G.few hF2 hA2
    simp only [List.length_append, List.length_singleton] at few hm
    have := fls_le (hs := hs) (a := a)
    obtain ⟨w, hw⟩ := G.at_ a hb
    obtain ⟨x', k⟩ := ih st (some (.int (2 * (a : Int)))) G hr hA2 hF2 (fun v hv => by
      rcases List.mem_append.mp hv with z | z
      · exact hl v (List.mem_append_left _ z)
      · exact G.fl a hb v z) (by simp only [List.length_append, List.length_singleton]; omega)
    refine ⟨x', .next rcond_t ?_ k⟩
    unfold b_reached_2b
    rw [ev_sSeq rpop]
    unfold m_reached_2b2
    rw [ev_if_t (rtest_in false (by rw [dGet_none (fun z => h (nD_mem.mp z))]; rfl))]
    unfold b_reached_2b2t
    rw [ev_sSeq (rmark h (by omega))]
    exact rline hw (by omega)
end
end K69
end FW

set_option maxHeartbeats 4000000
namespace FW
namespace K69
open PySem L2

theorem perm_sum {l m : List Int} (h : l.Perm m) : l.sum = m.sum := by
  induction h with
  | nil => rfl
  | cons x _ ih => simp only [List.sum_cons, ih]
  | swap x y l => simp only [List.sum_cons]; omega
  | trans _ _ ih1 ih2 => rw [ih1, ih2]
/-- from the smallest -/
def sN (F : List Nat) : List Int := srtI (F.map fun (a : Nat) => (a : Int))
theorem sN_perm {F : List Nat} : (sN F).Perm (F.map fun (a : Nat) => (a : Int)) := srtI_perm _
theorem sN_len {F : List Nat} : (sN F).length = F.length := by rw [sN_perm.length_eq, List.length_map]
theorem sN_mem {F : List Nat} {i : Int} (h : i ∈ sN F) : ∃ a ∈ F, i = (a : Int) := by
  have := sN_perm.mem_iff.mp h
  simp only [List.mem_map] at this
  obtain ⟨a, ha, e⟩ := this
  exact ⟨a, ha, e.symm⟩
theorem sN_only {F : List Nat} {l : List Int} (h1 : l.Perm (F.map fun (a : Nat) => (a : Int))) (h2 : l.Pairwise (· ≤ ·)) : sN F = l := (srtI_only h1 h2).symm
theorem sN_eq {F F' : List Nat} (h : F.Perm F') : sN F = sN F' := sN_only (sN_perm.trans (h.map _).symm) (srtI_sorted _)
theorem rd_dct {st : Store} {k : Nat} {ks ds : List D} (h : st[k]? = some (.dct ks ds)) : rdI (.ref k) st = none := by simp only [rdI, rdlOf, h]
theorem rd_lst {st : Store} {k : Nat} {ns : List Int} (h : st[k]? = some (.lst (iD ns))) : rdI (.ref k) st = some ns := by simp only [rdI, rdlOf, h, intsD_iD]
theorem rd_L {st : Store} {ns : List Int} : rdI (.lst (iD ns)) st = some ns := by simp only [rdI, rdlOf, intsD_iD]
section
variable {hs : List Int} {A : Nat → Prop} {room : Nat} {ws : List Int} {F : List Nat} {st : Store}
theorem g_reached (G : Good hs A room) (hr : room ≤ 2900) (hw : ∀ w ∈ ws, Wd A w) (hl : ws.length ≤ 1000) (wf : Wf st) (d : Dfs hs [] ws F) : G_reached [.tup (iD hs), .tup (iD ws)] st = some (.tup (iD (sN F)), st) := by
  obtain ⟨x', k⟩ := rloop (R := .tup (iD ws)) d st none G (by omega) (by simp) (by simp) hw (by simp; omega)
  refine tell_flat (g := rS F []) wf (runF_rt ?_) (by simp only [Lt]; exact lts_iD)
  unfold m_reached
  rw [show env0 5 [.tup (iD hs), .tup (iD ws)] = [some (.tup (iD hs)), some (.tup (iD ws)), none, none, none] from rfl]
  rw [ev_sSeq (e1 := rE hs (.tup (iD ws)) st.length none) (st1 := st ++ rS [] ws) (by simp [m_reached_1, oList, seqOf, rS, rE, nD])]
  rw [ev_sSeq (show m_reached_2 _ _ = _ from ev_while k)]
  have h0 : (st ++ rS F [])[st.length]? = some (.dct (nD F) (F.map fun _ => D.bl true)) := at0
  have e : oSortedAll [.ref st.length] (st ++ rS F []) = some (.lst (iD (sN F))) := by
    simp only [oSortedAll, rd_dct h0, dct_ref h0]
    rw [nD_iD, intsD_iD]
    rfl
  simp [m_reached_3, rE, e, fTuple, rdlOf]
theorem sum_siz {F : List Nat} : ((sN F).map fun i => ((siz hs i.toNat : Nat) : Int)).sum = ((F.map (siz hs)).sum : Nat) := by
  have p := (sN_perm (F := F)).map fun i => ((siz hs i.toNat : Nat) : Int)
  have e : ((sN F).map fun i => ((siz hs i.toNat : Nat) : Int)).sum = ((F.map fun (a : Nat) => (a : Int)).map fun i => ((siz hs i.toNat : Nat) : Int)).sum := by
    exact perm_sum p
  rw [e, List.map_map]
  clear e p
  induction F with
  | nil => rfl
  | cons a F ih =>
    simp only [List.map_cons, List.sum_cons, Function.comp_apply, Int.toNat_natCast, ih]
    omega
theorem g_reached_words (G : Good hs A room) (hr : room ≤ 2900) (hw : ∀ w ∈ ws, Wd A w) (hl : ws.length ≤ 1000) (wf : Wf st) (d : Dfs hs [] ws F) : G_reached_words [.tup (iD hs), .tup (iD ws)] st = some (.int ((F.map (siz hs)).sum : Nat), st) := by
  refine runF_rt ?_
  have hF := d.props
  have hA : ∀ a ∈ F, A a := fun a ha => hF.snd A (fun a ha b hb => by
    rcases G.fl a ha _ hb with z | ⟨c, z, hc⟩
    · omega
    · rwa [show b = c by omega]) (by simp) (fun a ha => by
    rcases hw _ ha with z | ⟨c, z, hc⟩
    · omega
    · rwa [show a = c by omega]) a ha
  have few := G.few (hF.nd (by simp)) hA
  have lc : lcL ⟨iD (sN F), []⟩ (gN 2) xYes (xCl 2 G_size_at (aC (xV 0) (aC (xV 2) aN))) [some (.tup (iD hs)), some (.tup (iD ws)), none] (iD (sN F)) [] st = some (.ok (.lst (iD ((sN F).map fun i => ((siz hs i.toNat : Nat) : Int)))), st) := by
    rw [lcL_map hold_none (iD (sN F)) [] (fun d => match d with | .int i => .int ((siz hs i.toNat : Nat) : Int) | d => d) (fun d => [some (.tup (iD hs)), some (.tup (iD ws)), some d])]
    · simp [iD, Function.comp_def]
    · intro d hd
      obtain ⟨i, hi, rfl⟩ := iD_mem.mp hd
      obtain ⟨a, ha, rfl⟩ := sN_mem hi
      obtain ⟨w, hw⟩ := G.at_ a (hA a ha)
      refine ⟨rfl, ?_⟩
      simp [g_size_at hw]
    · have := sizeLine_big
      simp only [List.length_nil, iD_length, sN_len]
      omega
  simp only [m_reached_words, m_reached_words_1, env0]
  simp [g_reached G hr hw hl wf d, itV, ev_xLc, wipeE, lc, fSum, rd_L, sum_siz]
end
end K69
end FW

set_option maxHeartbeats 4000000
namespace FW
namespace K69
open PySem L2

/-! ### reached, as the law goes on -/
theorem flats_I : ∀ {ns : List Int}, flatsD (iD ns) = some (ns.map V.int)
  | [] => rfl
  | n :: ns => by simp [flatsD, flatD, flats_I]
theorem flat_all : ∀ {ns : List Int}, (ns.map V.int).all flatV = true
  | [] => rfl
  | n :: ns => by
    have := flat_all (ns := ns)
    simp only [List.map_cons, List.all_cons, this, Bool.and_true]
    rfl
theorem inV_I {i : Int} : ∀ {ns : List Int}, inV (.int i) (ns.map V.int) = decide (i ∈ ns)
  | [] => by simp [inV]
  | n :: ns => by
    have h := inV_I (i := i) (ns := ns)
    unfold inV at h ⊢
    rw [List.map_cons, List.any_cons, h]
    simp only [eqV, List.mem_cons]
    by_cases e : n = i
    · subst e; simp
    · have e2 : ¬ i = n := fun z => e z.symm
      simp [e, e2]
theorem ev_inI {neg : Bool} {i : Int} {d : D} {ns : List Int} {st : Store} (h : seqOf d st = some (iD ns)) : oIn neg (.int i) d st = some (.bl (if neg then !decide (i ∈ ns) else decide (i ∈ ns)), st) := by
  unfold oIn
  simp only [flatD, h, Option.bind_some, flats_I, inV_I]
  rw [if_pos ⟨rfl, flat_all⟩]
def ev (w : Int) : Bool := w % 2 == 0
section
variable {hs : List Int} {R : D} {A : Nat → Prop} {room : Nat}
def lS (F : List Nat) (l : List Int) : Store := [.lst (nD F), .lst (iD l)]
def lE (hs : List Int) (R : D) (n : Nat) (x y : Option D) : Env := [some (.tup (iD hs)), some R, some (.ref n), some (.ref (n + 1)), x, y]
theorem lcond {st : Store} {F : List Nat} {l : List Int} {x y : Option D} : t_law_reached_2 (lE hs R st.length x y) (st ++ lS F l) = some (.ok (!l.isEmpty), st ++ lS F l) := by
  have h : (st ++ lS F l)[st.length + 1]? = some (.lst (iD l)) := at1
  simp [t_law_reached_2, lE, ev_neE (pd_ref h), sizeLine_eq]
theorem lcond_t {st : Store} {F : List Nat} {l : List Int} {w : Int} {x y : Option D} : t_law_reached_2 (lE hs R st.length x y) (st ++ lS F (l ++ [w])) = some (.ok true, st ++ lS F (l ++ [w])) := by rw [lcond]; simp
theorem lpop {st : Store} {F : List Nat} {l : List Int} {a : Nat} {x y : Option D} : m_law_reached_2b1 (lE hs R st.length x y) (st ++ lS F (l ++ [2 * (a : Int)])) = some (.nx (lE hs R st.length x (some (.int a))), st ++ lS F l) := by
  have h : (st ++ lS F (l ++ [2 * (a : Int)]))[st.length + 1]? = some (.lst (iD (l ++ [2 * (a : Int)]))) := at1
  have s : (st ++ lS F (l ++ [2 * (a : Int)])).set (st.length + 1) (.lst (iD l)) = st ++ lS F l := set1
  simp [m_law_reached_2b1, lE, tyL_ref h, pop_ref h, s, ev_divI, half]
theorem ltest {st : Store} {F : List Nat} {l : List Int} {a : Nat} {x : Option D} : t_law_reached_2b2 (lE hs R st.length x (some (.int a))) (st ++ lS F l) = some (.ok (!decide (a ∈ F)), st ++ lS F l) := by
  have h0 : (st ++ lS F l)[st.length]? = some (.lst (nD F)) := at0
  simp [t_law_reached_2b2, lE, ev_inI (neg := true) (i := (a : Int)) (ns := F.map fun (b : Nat) => (b : Int)) (seq_ref (by rw [h0, nD_iD]))]
  exact ⟨fun ⟨b, hb, z⟩ => by rwa [show a = b by omega], fun h => ⟨a, h, rfl⟩⟩
theorem lmark {st : Store} {F : List Nat} {l : List Int} {a : Nat} {x : Option D} (hF : F.length < 1000000) : m_law_reached_2b2t1 (lE hs R st.length x (some (.int a))) (st ++ lS F l) = some (.nx (lE hs R st.length x (some (.int a))), st ++ lS (F ++ [a]) l) := by
  have h0 : (st ++ lS F l)[st.length]? = some (.lst (nD F)) := at0
  have s : (st ++ lS F l).set st.length (.lst (nD F ++ [.int (a : Int)])) = st ++ lS (F ++ [a]) l := by
    rw [show st ++ lS (F ++ [a]) l = st ++ [.lst (nD F ++ [.int (a : Int)]), .lst (iD l)] by simp [lS, nD]]
    exact set0
  have := sizeLine_big
  simp [m_law_reached_2b2t1, lE, tyL_ref h0, app_ref h0 (show (nD F).length < sizeLine by rw [nD_len]; omega), s]
def evD (d : D) : Bool := match d with
  | .int i => ev i
  | _ => false
theorem filter_iD : ∀ {ns : List Int}, (iD ns).filter evD = iD (ns.filter ev)
  | [] => rfl
  | n :: ns => by
    have ih := filter_iD (ns := ns)
    by_cases q : ev n = true
    · rw [iD_cons, List.filter_cons_of_pos (show evD (.int n) = true from q), List.filter_cons_of_pos q, ih]; rfl
    · rw [iD_cons, List.filter_cons_of_neg (show ¬ evD (.int n) = true from q), List.filter_cons_of_neg q, ih]
/-- the pointers among the words -/
theorem lc_even {e : Env} {st : Store} (he : e[4]? = some none ∨ ∃ d, e[4]? = some (some d)) {ns : List Int} (hl : ns.length ≤ 100000) : lcL ⟨iD ns, []⟩ (gN 4) (xTst (x2 oEqA (x2 oMod (xN fInt (aC (xV 4) aN)) (xC (.int 2))) (xC (.int 0)))) (xV 4) e (iD ns) [] st = some (.ok (.lst (iD (ns.filter ev))), st) := by
  have h4 : 4 < e.length := by
    rcases he with h | ⟨d, h⟩ <;> exact (List.getElem?_eq_some_iff.mp h).1
  rw [lcL_filter hold_none (iD ns) [] evD id (fun d => e.set 4 (some d))]
  · simp only [List.nil_append, List.map_id_fun, id_eq]
    rw [filter_iD]
  · intro d hd
    obtain ⟨i, hi, rfl⟩ := iD_mem.mp hd
    have g : (e.set 4 (some (D.int i)))[4]? = some (some (D.int i)) := by simp [h4]
    exact ⟨rfl, by simp [ev_xV g, ev_modI, ev_eqI, ev, evD], fun _ => ev_xV g⟩
  · have := sizeLine_big
    simp only [List.length_nil, iD_length]
    omega
theorem wipe1 {e : Env} {i : Nat} : wipeE e [i] = e.set i none := rfl
theorem ext_refL {st : Store} {k : Nat} {l m : List Int} (h : st[k]? = some (.lst (iD l))) (hl : l.length + m.length ≤ sizeLine) : mExtend (.ref k) [.lst (iD m)] st = some (.non, st.set k (.lst (iD (l ++ m)))) := by
  unfold mExtend
  rw [mutL_ref h]
  simp [hl, lstOf]
theorem lline {st : Store} {F : List Nat} {l : List Int} {a : Nat} {w : Int} {x : Option D} (ha : At hs a w) (hl : l.length + 300 ≤ 1000000) : m_law_reached_2b2t2 (lE hs R st.length x (some (.int a))) (st ++ lS F l) = some (.nx (lE hs R st.length x (some (.int a))), st ++ lS F (l ++ (fls hs a).filter ev)) := by
  have h1 : (st ++ lS F l)[st.length + 1]? = some (.lst (iD l)) := at1
  have s : (st ++ lS F l).set (st.length + 1) (.lst (iD l ++ iD ((fls hs a).filter ev))) = st ++ lS F (l ++ (fls hs a).filter ev) := by
    rw [show st ++ lS F (l ++ (fls hs a).filter ev) = st ++ [.lst (nD F), .lst (iD l ++ iD ((fls hs a).filter ev))] by simp [lS]]
    exact set1
  have := sizeLine_big
  have f1 := fls_le (hs := hs) (a := a)
  have f2 := List.length_filter_le ev (fls hs a)
  have lc := lc_even (e := [some (.tup (iD hs)), some R, some (.ref st.length), some (.ref (st.length + 1)), none, some (.int (a : Int))]) (st := st ++ lS F l) (.inl rfl) (ns := fls hs a) (by omega)
  simp [m_law_reached_2b2t2, lE, tyL_ref h1, g_law_read ha, ix32, itV, ev_xLc, wipe1, lc, ext_refL h1 (show l.length + ((fls hs a).filter ev).length ≤ sizeLine by omega), s]
theorem lloop {F F' : List Nat} {l : List Int} (d : Dfs hs F l F') : ∀ (st : Store) (x y : Option D), Good hs A room → room ≤ 3000 → (∀ a ∈ F, A a) → F.Nodup → (∀ w ∈ l, Wd A w) → (l.filter ev).length + (room - F.length) * 300 ≤ 900000 →
    ∃ y', WhR t_law_reached_2 b_law_reached_2b (lE hs R st.length x y) (st ++ lS F (l.filter ev)) (.nx (lE hs R st.length x y'), st ++ lS F' []) := by
  induction d with
  | done => exact fun st x y _ _ _ _ _ _ => ⟨y, .stop (by rw [lcond]; rfl)⟩
  | @odd F l w F' h d ih =>
    intro st x y G hr hA hF hl hm
    have e : (l ++ [w]).filter ev = l.filter ev := by
      rw [List.filter_append]
      simp [ev, h]
    rw [e] at hm ⊢
    exact ih st x y G hr hA hF (fun v hv => hl v (List.mem_append_left _ hv)) hm
  | @old F l F' a h d ih =>
    intro st x y G hr hA hF hl hm
    have e : (l ++ [2 * (a : Int)]).filter ev = l.filter ev ++ [2 * (a : Int)] := by
      rw [List.filter_append]
      simp [ev]
    rw [e] at hm ⊢
    obtain ⟨y', k⟩ := ih st x (some (.int a)) G hr hA hF (fun v hv => hl v (List.mem_append_left _ hv)) (by simp at hm; omega)
    refine ⟨y', .next lcond_t ?_ k⟩
    unfold b_law_reached_2b
    rw [ev_sSeq lpop]
    unfold m_law_reached_2b2
    rw [ev_if_f (by rw [ltest]; simp [h]; rfl)]
    rfl
  | @new F l F' a h d ih =>
    intro st x y G hr hA hF hl hm
    have e : (l ++ [2 * (a : Int)]).filter ev = l.filter ev ++ [2 * (a : Int)] := by
      rw [List.filter_append]
      simp [ev]
    rw [e] at hm ⊢
    have hb : A a := by
      rcases hl (2 * (a : Int)) (by simp) with z | ⟨b, z, hb⟩
      · omega
      · rwa [show a = b by omega]
    have hF2 := nodup_snoc hF h
    have hA2 : ∀ x ∈ F ++ [a], A x := fun x hx => by
      rcases List.mem_append.mp hx with z | z
      · exact hA x z
      · simp at z; subst z; exact hb
    have few := G.few hF2 hA2
    simp only [List.length_append, List.length_singleton] at few hm
    have f1 := fls_le (hs := hs) (a := a)
    have f2 := List.length_filter_le ev (fls hs a)
    obtain ⟨w, hw⟩ := G.at_ a hb
    obtain ⟨y', k⟩ := ih st x (some (.int a)) G hr hA2 hF2 (fun v hv => by
      rcases List.mem_append.mp hv with z | z
      · exact hl v (List.mem_append_left _ z)
      · exact G.fl a hb v z) (by simp only [List.filter_append, List.length_append, List.length_singleton]; omega)
    refine ⟨y', .next lcond_t ?_ k⟩
    unfold b_law_reached_2b
    rw [ev_sSeq lpop]
    unfold m_law_reached_2b2
    rw [ev_if_t (by rw [ltest]; simp [h]; rfl)]
    unfold b_law_reached_2b2t
    rw [ev_sSeq (lmark (by omega)), lline hw (by omega), List.filter_append]
end
section
variable {hs : List Int} {A : Nat → Prop} {room : Nat} {ws : List Int} {F : List Nat} {st : Store}
theorem g_law_reached (G : Good hs A room) (hr : room ≤ 2900) (hw : ∀ w ∈ ws, Wd A w) (hl : ws.length ≤ 1000) (wf : Wf st) (d : Dfs hs [] ws F) : G_law_reached [.tup (iD hs), .tup (iD ws)] st = some (.lst (iD (sN F)), st) := by
  have f2 := List.length_filter_le ev ws
  obtain ⟨y', k⟩ := lloop (R := .tup (iD ws)) d st none none G (by omega) (by simp) (by simp) hw (by simp; omega)
  refine tell_flat (g := lS F []) wf (runF_rt ?_) (by simp only [Lt]; exact lts_iD)
  unfold m_law_reached
  rw [show env0 6 [.tup (iD hs), .tup (iD ws)] = [some (.tup (iD hs)), some (.tup (iD ws)), none, none, none, none] from rfl]
  have lc := lc_even (e := [some (.tup (iD hs)), some (.tup (iD ws)), none, none, none, none]) (st := st ++ [.lst []]) (.inl rfl) (ns := ws) (by omega)
  rw [ev_sSeq (e1 := lE hs (.tup (iD ws)) st.length none none) (st1 := st ++ lS [] (ws.filter ev)) (by simp [m_law_reached_1, itV, ev_xLc, wipe1, lc, lS, lE, nD, sizeLine_eq])]
  rw [ev_sSeq (show m_law_reached_2 _ _ = _ from ev_while k)]
  have h0 : (st ++ lS F [])[st.length]? = some (.lst (iD (F.map fun (a : Nat) => (a : Int)))) := by rw [← nD_iD]; exact at0
  have e : oSortedAll [.ref st.length] (st ++ lS F []) = some (.lst (iD (sN F))) := by
    simp only [oSortedAll, rd_lst h0]
    rfl
  simp [m_law_reached_3, lE, e]
end
end K69
end FW

set_option maxHeartbeats 4000000
namespace FW
namespace K69
open PySem L2

/-! ### breadth first, in the plain -/
def wA (w : Int) : Nat := (w / 2).toNat
theorem wA2 {a : Nat} : wA (2 * (a : Int)) = a := by unfold wA; omega
def place (ord : List Nat) (w : Int) : List Nat := if w % 2 = 1 then ord else if wA w ∈ ord then ord else ord ++ [wA w]
def places (ord : List Nat) (ws : List Int) : List Nat := ws.foldl place ord
theorem places_nil {ord : List Nat} : places ord [] = ord := rfl
theorem places_cons {ord : List Nat} {w : Int} {ws : List Int} : places ord (w :: ws) = places (place ord w) ws := rfl
inductive Scan (hs : List Int) : Nat → List Nat → List Nat → Prop
  | done {k ord} : ord.length = k → Scan hs k ord ord
  | step {k ord ord' a} : ord[k]? = some a → Scan hs (k + 1) (places ord (fls hs a)) ord' → Scan hs k ord ord'
theorem place_app {ord : List Nat} {w : Int} : ∃ m, place ord w = ord ++ m := by
  unfold place
  split
  · exact ⟨[], by simp⟩
  · split
    · exact ⟨[], by simp⟩
    · exact ⟨[wA w], rfl⟩
theorem places_app : ∀ {ws : List Int} {ord : List Nat}, ∃ m, places ord ws = ord ++ m
  | [], ord => ⟨[], by simp [places]⟩
  | w :: ws, ord => by
    obtain ⟨m, h⟩ := place_app (ord := ord) (w := w)
    obtain ⟨m2, h2⟩ := places_app (ws := ws) (ord := place ord w)
    exact ⟨m ++ m2, by rw [places_cons, h2, h, List.append_assoc]⟩
theorem place_nd {ord : List Nat} {w : Int} (h : ord.Nodup) : (place ord w).Nodup := by
  unfold place
  split
  · exact h
  · split
    · exact h
    · exact nodup_snoc h (by assumption)
theorem places_nd : ∀ {ws : List Int} {ord : List Nat}, ord.Nodup → (places ord ws).Nodup
  | [], _, h => h
  | _ :: _, _, h => by rw [places_cons]; exact places_nd (place_nd h)
theorem place_A {A : Nat → Prop} {ord : List Nat} {w : Int} (h : ∀ a ∈ ord, A a) (hw : Wd A w) : ∀ a ∈ place ord w, A a := by
  unfold place
  split
  · exact h
  · split
    · exact h
    · intro a ha
      rcases List.mem_append.mp ha with z | z
      · exact h a z
      · simp at z
        subst z
        rcases hw with q | ⟨b, q, hb⟩
        · contradiction
        · rw [q, wA2]; exact hb
theorem places_A {A : Nat → Prop} : ∀ {ws : List Int} {ord : List Nat}, (∀ a ∈ ord, A a) → (∀ w ∈ ws, Wd A w) → ∀ a ∈ places ord ws, A a
  | [], _, h, _ => h
  | w :: ws, ord, h, hw => by rw [places_cons]; exact places_A (place_A h (hw w (by simp))) fun v hv => hw v (List.mem_cons_of_mem _ hv)
/-- a word whose object has its place -/
def Has (ord : List Nat) (w : Int) : Prop := w % 2 = 1 ∨ wA w ∈ ord
theorem Has.app {ord m : List Nat} {w : Int} (h : Has ord w) : Has (ord ++ m) w := h.imp id fun z => List.mem_append_left _ z
theorem place_has {ord : List Nat} {w : Int} : Has (place ord w) w := by
  unfold place
  split
  · exact .inl (by assumption)
  · split
    · exact .inr (by assumption)
    · exact .inr (by simp)
theorem places_has : ∀ {ws : List Int} {ord : List Nat}, ∀ w ∈ ws, Has (places ord ws) w
  | w :: ws, ord, v, hv => by
    rw [places_cons]
    rcases List.mem_cons.mp hv with e | hv
    · subst e
      obtain ⟨m, h⟩ := places_app (ws := ws) (ord := place ord v)
      rw [h]
      exact place_has.app
    · exact places_has v hv
theorem Scan.app {hs : List Int} {k : Nat} {ord ord' : List Nat} (s : Scan hs k ord ord') : ∃ m, ord' = ord ++ m := by
  induction s with
  | done => exact ⟨[], by simp⟩
  | @step k ord ord' a _ _ ih =>
    obtain ⟨m, h⟩ := places_app (ws := fls hs a) (ord := ord)
    obtain ⟨m2, h2⟩ := ih
    exact ⟨m ++ m2, by rw [h2, h, List.append_assoc]⟩
theorem Scan.nd {hs : List Int} {k : Nat} {ord ord' : List Nat} (s : Scan hs k ord ord') : ord.Nodup → ord'.Nodup := by
  induction s with
  | done => exact id
  | step _ _ ih => exact fun h => ih (places_nd h)
theorem Scan.inA {hs : List Int} {A : Nat → Prop} {room : Nat} (G : Good hs A room) {k : Nat} {ord ord' : List Nat} (s : Scan hs k ord ord') : (∀ a ∈ ord, A a) → ∀ a ∈ ord', A a := by
  induction s with
  | done => exact id
  | @step k ord ord' a ha _ ih => exact fun h => ih (places_A h (G.fl a (h a (List.mem_of_getElem? ha))))
/-- all that the scanned point to has its place -/
theorem Scan.cl {hs : List Int} {k : Nat} {ord ord' : List Nat} (s : Scan hs k ord ord') : (∀ (i : Nat) (a : Nat), i < k → ord[i]? = some a → ∀ w ∈ fls hs a, Has ord w) → ∀ a ∈ ord', ∀ w ∈ fls hs a, Has ord' w := by
  induction s with
  | done hk =>
    intro h a ha
    obtain ⟨i, hi⟩ := List.getElem?_of_mem ha
    exact h i a (by rw [← hk]; exact (List.getElem?_eq_some_iff.mp hi).1) hi
  | @step k ord ord' a ha _ ih =>
    intro h
    obtain ⟨m, hm⟩ := places_app (ws := fls hs a) (ord := ord)
    refine ih fun i b hi hb w hw => ?_
    have hk : k < ord.length := (List.getElem?_eq_some_iff.mp ha).1
    rw [hm, List.getElem?_append_left (by omega)] at hb
    rcases Nat.lt_or_ge i k with z | z
    · rw [hm]
      exact (h i b z hb w hw).app
    · have : i = k := by omega
      subst this
      rw [ha] at hb
      cases hb
      exact places_has w hw
theorem Scan.snd {hs : List Int} {k : Nat} {ord ord' : List Nat} (s : Scan hs k ord ord') (P : Nat → Prop) (hP : ∀ a, P a → ∀ w ∈ fls hs a, w % 2 = 1 ∨ P (wA w)) : (∀ a ∈ ord, P a) → ∀ a ∈ ord', P a := by
  have one : ∀ {ord : List Nat} {w : Int}, (∀ a ∈ ord, P a) → (w % 2 = 1 ∨ P (wA w)) → ∀ a ∈ place ord w, P a := by
    intro ord w h hw
    unfold place
    split
    · exact h
    · split
      · exact h
      · intro a ha
        rcases List.mem_append.mp ha with z | z
        · exact h a z
        · simp at z
          subst z
          rcases hw with q | q
          · contradiction
          · exact q
  have all : ∀ {ws : List Int} {ord : List Nat}, (∀ a ∈ ord, P a) → (∀ w ∈ ws, w % 2 = 1 ∨ P (wA w)) → ∀ a ∈ places ord ws, P a := by
    intro ws
    induction ws with
    | nil => exact fun h _ => h
    | cons w ws ih => exact fun h hw => ih (one h (hw w (by simp))) fun v hv => hw v (List.mem_cons_of_mem _ hv)
  induction s with
  | done => exact id
  | @step k ord ord' a ha _ ih => exact fun h => ih (all h (hP a (h a (List.mem_of_getElem? ha))))
theorem Scan.ex {hs : List Int} {A : Nat → Prop} {room : Nat} (G : Good hs A room) : ∀ (n k : Nat) (ord : List Nat), room - k ≤ n → k ≤ ord.length → ord.Nodup → (∀ a ∈ ord, A a) → ∃ ord', Scan hs k ord ord'
  | n, k, ord, hn, hk, hnd, hA => by
    have few := G.few hnd hA
    by_cases e : ord.length = k
    · exact ⟨ord, .done e⟩
    · have hlt : k < ord.length := by omega
      obtain ⟨a, ha⟩ : ∃ a, ord[k]? = some a := ⟨ord[k], by simp [hlt]⟩
      cases n with
      | zero => omega
      | succ n =>
        obtain ⟨m, hm⟩ := places_app (ws := fls hs a) (ord := ord)
        obtain ⟨ord', s⟩ := Scan.ex G n (k + 1) (places ord (fls hs a)) (by omega) (by rw [hm]; simp; omega) (places_nd hnd) (places_A hA (G.fl a (hA a (List.mem_of_getElem? ha))))
        exact ⟨ord', .step ha s⟩
/-- both goings on reach the same -/
theorem reach_same {hs : List Int} {A : Nat → Prop} {room : Nat} {ws : List Int} {F ord : List Nat} (G : Good hs A room) (hw : ∀ w ∈ ws, Wd A w) (d : Dfs hs [] ws F) (s : Scan hs 0 (places [] ws) ord) : F.Perm ord := by
  have p := d.props
  have hnd := s.nd (places_nd (by simp))
  have cl := s.cl (fun i a hi => by omega)
  have hA := s.inA G (places_A (by simp) hw)
  have e2 : ∀ {w : Int}, Wd A w → ¬ w % 2 = 1 → w = 2 * ((wA w : Nat) : Int) := by
    intro w h n
    rcases h with z | ⟨b, z, _⟩
    · contradiction
    · rw [z, wA2]
  rw [List.perm_ext_iff_of_nodup (p.nd (by simp)) hnd]
  intro a
  constructor
  · refine p.snd (fun a => a ∈ ord) (fun a ha b hb => ?_) (by simp) (fun a ha => ?_) a
    · rcases cl a ha _ hb with z | z
      · omega
      · rwa [wA2] at z
    · obtain ⟨m, hm⟩ := s.app
      have := places_has (ord := []) (2 * (a : Int)) ha
      rcases this with z | z
      · omega
      · rw [wA2] at z
        rw [hm]
        exact List.mem_append_left _ z
  · have FA : ∀ a ∈ F, A a := p.snd A (fun a ha b hb => by
      rcases G.fl a ha _ hb with z | ⟨c, z, hc⟩
      · omega
      · rwa [show b = c by omega]) (by simp) (fun a ha => by
      rcases hw _ ha with z | ⟨c, z, hc⟩
      · omega
      · rwa [show a = c by omega])
    refine s.snd (fun a => a ∈ F) (fun a ha w hwf => ?_) ?_ a
    · rcases Int.emod_two_eq w with z | z
      · right
        have e := e2 (G.fl a (FA a ha) w hwf) (by omega)
        rcases p.cl a ha with q | q
        · simp at q
        · exact q _ (by rw [← e]; exact hwf)
      · exact .inl z
    · intro b hb
      have : ∀ (vs : List Int) (o : List Nat), (∀ v ∈ vs, v ∈ ws) → (∀ x ∈ o, x ∈ F) → ∀ x ∈ places o vs, x ∈ F := by
        intro vs
        induction vs with
        | nil => exact fun o _ h => h
        | cons v vs ih =>
          intro o hv ho
          rw [places_cons]
          refine ih _ (fun u hu => hv u (List.mem_cons_of_mem _ hu)) ?_
          unfold place
          split
          · exact ho
          · split
            · exact ho
            · rename_i n1 n2
              intro x hx
              rcases List.mem_append.mp hx with z | z
              · exact ho x z
              · simp at z
                subst z
                have hvw := hv v (by simp)
                exact p.line _ (by rw [← e2 (hw v hvw) n1]; exact hvw)
      exact this ws [] (fun _ h => h) (by simp) b hb
end K69
end FW

set_option maxHeartbeats 4000000
namespace FW
namespace K69
open PySem L2

/-! ### where the copies stand -/
def off (hs : List Int) : List Nat → Nat → Nat
  | [], _ => 0
  | b :: l, a => if b = a then 0 else siz hs b + off hs l a
def tot (hs : List Int) (l : List Nat) : Nat := (l.map (siz hs)).sum
theorem tot_app {hs : List Int} {l m : List Nat} : tot hs (l ++ m) = tot hs l + tot hs m := by simp [tot]
theorem off_app {hs : List Int} {m : List Nat} {a : Nat} : ∀ {l : List Nat}, a ∈ l → off hs (l ++ m) a = off hs l a
  | b :: l, h => by
    simp only [List.cons_append, off]
    by_cases e : b = a
    · rw [if_pos e, if_pos e]
    · rw [if_neg e, if_neg e, off_app (by
        rcases List.mem_cons.mp h with z | z
        · exact absurd z.symm e
        · exact z)]
theorem off_new {hs : List Int} {a : Nat} {m : List Nat} : ∀ {l : List Nat}, a ∉ l → off hs (l ++ a :: m) a = tot hs l
  | [], _ => by simp [off, tot]
  | b :: l, h => by
    simp only [List.mem_cons, not_or] at h
    simp only [List.cons_append, off]
    rw [if_neg (fun z => h.1 z.symm), off_new h.2]
    simp [tot]
def fwd (hs : List Int) (beg : Nat) (ord : List Nat) (w : Int) : Int := if w % 2 = 1 then w else 2 * ((beg + off hs ord (wA w) : Nat) : Int)
theorem fwd_app {hs : List Int} {beg : Nat} {ord m : List Nat} {w : Int} (h : Has ord w) : fwd hs beg (ord ++ m) w = fwd hs beg ord w := by
  unfold fwd
  split
  · rfl
  · rcases h with z | z
    · contradiction
    · rw [off_app z]
def raw (hs : List Int) (a : Nat) : List Int := (hs.drop a).take (siz hs a)
theorem raw_len {hs : List Int} {a : Nat} {w : Int} (h : At hs a w) : (raw hs a).length = siz hs a := by
  have := h.2.2.2
  unfold raw
  simp only [List.length_take, List.length_drop]
  omega
theorem raw_eq {hs : List Int} {a : Nat} {w : Int} (h : At hs a w) : raw hs a = w :: fls hs a := by
  have ha := h.1
  obtain ⟨h1, h2⟩ := List.getElem?_eq_some_iff.mp ha
  unfold raw fls siz
  rw [List.drop_eq_getElem_cons h1, h2, Nat.add_comm 1, List.take_succ_cons]
def news (hs : List Int) (m : List Nat) : List Int := (m.map (raw hs)).flatten
theorem news_app {hs : List Int} {l m : List Nat} : news hs (l ++ m) = news hs l ++ news hs m := by simp [news]
theorem news_len {hs : List Int} : ∀ {l : List Nat}, (∀ a ∈ l, ∃ w, At hs a w) → (news hs l).length = tot hs l
  | [], _ => rfl
  | a :: l, h => by
    obtain ⟨w, hw⟩ := h a (by simp)
    have ih := news_len (l := l) fun x hx => h x (List.mem_cons_of_mem _ hx)
    simp only [news, List.map_cons, List.flatten_cons, List.length_append, raw_len hw]
    simp only [news] at ih
    rw [ih]
    simp [tot]
/-! ### moved_word -/
def mK (ord : List Nat) : List D := ord.map fun (a : Nat) => D.int (2 * (a : Int))
def mV (hs : List Int) (beg : Nat) (ord : List Nat) : List D := ord.map fun (a : Nat) => D.int (2 * ((beg + off hs ord a : Nat) : Int))
theorem mV_new {hs : List Int} {beg : Nat} {ord : List Nat} {a : Nat} (h : a ∉ ord) : mV hs beg (ord ++ [a]) = mV hs beg ord ++ [D.int (2 * ((beg + tot hs ord : Nat) : Int))] := by
  unfold mV
  rw [List.map_append]
  congr 1
  · refine List.map_congr_left fun b hb => ?_
    rw [off_app hb]
  · simp only [List.map_cons, List.map_nil]
    rw [off_new h]
theorem mK_mem {ord : List Nat} {a : Nat} : D.int (2 * (a : Int)) ∈ mK ord ↔ a ∈ ord := by
  unfold mK
  rw [List.mem_map]
  constructor
  · rintro ⟨b, hb, e⟩
    injection e with e
    rwa [show a = b by omega]
  · exact fun h => ⟨a, h, rfl⟩
theorem mV_get {hs : List Int} {beg : Nat} {ord : List Nat} {a : Nat} (h : a ∈ ord) : dGet (mK ord) (mV hs beg ord) (.int (2 * (a : Int))) = some (.int (2 * ((beg + off hs ord a : Nat) : Int))) :=
  dGet_map (f := fun (a : Nat) => D.int (2 * (a : Int))) (g := fun (a : Nat) => D.int (2 * ((beg + off hs ord a : Nat) : Int))) (fun x y e => by injection e with e; omega) h
/-- the copies and their places, in the store -/
def mS (hs : List Int) (beg : Nat) (FD : List Int) (ord : List Nat) : Store := [.lst (iD FD), .dct (mK ord) (mV hs beg ord)]
def gro (hs : List Int) (ord : List Nat) (w : Int) : List Int := if w % 2 = 1 then [] else if wA w ∈ ord then [] else raw hs (wA w)
/-- from-space: the part of the heap that is handed in -/
structure Part (hs : List Int) (lo room : Nat) (A : Nat → Prop) : Prop where
  ge : ∀ a, A a → lo ≤ a
  le : ∀ a, A a → a + siz hs a ≤ lo + room
  len : lo + room ≤ hs.length
theorem part_at {hs : List Int} {lo room : Nat} {A : Nat → Prop} (P : Part hs lo room A) {a : Nat} {w : Int} (ha : A a) (h : At hs a w) : ((hs.drop lo).take room)[a - lo]? = some w := by
  have h1 := P.ge a ha
  have h2 := P.le a ha
  have := siz_pos (hs := hs) (a := a)
  rw [List.getElem?_take_of_lt (by omega), List.getElem?_drop, show lo + (a - lo) = a by omega]
  exact h.1
theorem part_raw {hs : List Int} {lo room : Nat} {A : Nat → Prop} (P : Part hs lo room A) {a : Nat} (ha : A a) : (((hs.drop lo).take room).drop (a - lo)).take (siz hs a) = raw hs a := by
  have h1 := P.ge a ha
  have h2 := P.le a ha
  unfold raw
  rw [List.drop_take, List.drop_drop, show lo + (a - lo) = a by omega, List.take_take, Nat.min_eq_left (by omega)]
theorem ev_dget {k : Nat} {ks ds : List D} {i : Int} {v : D} {st : Store} (h : st[k]? = some (.dct ks ds)) (g : dGet ks ds (.int i) = some v) : oDGet (.ref k) (.int i) st = some (v, st) := by
  unfold oDGet
  rw [dct_ref h]
  simp only [keyI, if_true, g]
section
variable {hs : List Int} {lo room beg : Nat} {A : Nat → Prop} {st : Store}
def vE (hs : List Int) (lo room beg n : Nat) (w : Int) (x : Option D) : Env := [some (.tup (iD ((hs.drop lo).take room))), some (.int lo), some (.int beg), some (.ref n), some (.ref (n + 1)), some (.int w), x]
theorem g_moved (G : Good hs A room) (P : Part hs lo room A) (hr : room ≤ 2900) {FD : List Int} {ord : List Nat} {w : Int} (hF : FD.length = tot hs ord) (hnd : ord.Nodup) (hA : ∀ a ∈ ord, A a) (hw : Wd A w) :
    G_moved_word [.tup (iD ((hs.drop lo).take room)), .int lo, .int beg, .ref st.length, .ref (st.length + 1), .int w] (st ++ mS hs beg FD ord) = some (.int (fwd hs beg (place ord w) w), st ++ mS hs beg (FD ++ gro hs ord w) (place ord w)) := by
  refine runF_rt ?_
  rw [show env0 7 [.tup (iD ((hs.drop lo).take room)), .int lo, .int beg, .ref st.length, .ref (st.length + 1), .int w] = vE hs lo room beg st.length w none from rfl]
  unfold m_moved_word
  by_cases ho : w % 2 = 1
  · have e1 : place ord w = ord := by unfold place; rw [if_pos ho]
    have e2 : gro hs ord w = [] := by unfold gro; rw [if_pos ho]
    have e3 : fwd hs beg ord w = w := by unfold fwd; rw [if_pos ho]
    rw [e1, e2, e3, List.append_nil]
    refine ev_sSeq_rt ?_
    unfold m_moved_word_1
    rw [ev_if_t (st1 := st ++ mS hs beg FD ord) (by simp [t_moved_word_1, vE, ev_modI, ev_eqI, ho])]
    simp [b_moved_word_1t, m_moved_word_1t1, vE]
  obtain ⟨a, rfl, ha⟩ : ∃ a : Nat, w = 2 * (a : Int) ∧ A a := by
    rcases hw with z | z
    · contradiction
    · exact z
  obtain ⟨hd, hat⟩ := G.at_ a ha
  rw [ev_sSeq (e1 := vE hs lo room beg st.length (2 * (a : Int)) none) (st1 := st ++ mS hs beg FD ord) (by
    unfold m_moved_word_1
    rw [ev_if_f (st1 := st ++ mS hs beg FD ord) (by simp [t_moved_word_1, vE, ev_modI, ev_eqI])]
    rfl)]
  have h1 : (st ++ mS hs beg FD ord)[st.length + 1]? = some (.dct (mK ord) (mV hs beg ord)) := at1
  have h0 : (st ++ mS hs beg FD ord)[st.length]? = some (.lst (iD FD)) := at0
  by_cases hin : a ∈ ord
  · have e1 : place ord (2 * (a : Int)) = ord := by unfold place; rw [if_neg ho, wA2, if_pos hin]
    have e2 : gro hs ord (2 * (a : Int)) = [] := by unfold gro; rw [if_neg ho, wA2, if_pos hin]
    have e3 : fwd hs beg ord (2 * (a : Int)) = 2 * ((beg + off hs ord a : Nat) : Int) := by unfold fwd; rw [if_neg ho, wA2]
    rw [e1, e2, e3, List.append_nil]
    rw [ev_sSeq (e1 := vE hs lo room beg st.length (2 * (a : Int)) none) (st1 := st ++ mS hs beg FD ord) (by
      unfold m_moved_word_2
      rw [ev_if_f (st1 := st ++ mS hs beg FD ord) (by simp [t_moved_word_2, vE, ev_din h1, mV_get hin])]
      rfl)]
    simp [m_moved_word_3, vE, ev_dget h1 (mV_get hin)]
  · have e1 : place ord (2 * (a : Int)) = ord ++ [a] := by unfold place; rw [if_neg ho, wA2, if_neg hin]
    have e2 : gro hs ord (2 * (a : Int)) = raw hs a := by unfold gro; rw [if_neg ho, wA2, if_neg hin]
    have e3 : fwd hs beg (ord ++ [a]) (2 * (a : Int)) = 2 * ((beg + tot hs ord : Nat) : Int) := by unfold fwd; rw [if_neg ho, wA2, off_new hin]
    rw [e1, e2, e3]
    have few := G.fit ord hnd hA
    have few2 := G.few hnd hA
    have sz := sizeLine_big
    have p1 := P.ge a ha
    have p2 := P.le a ha
    have p3 := P.len
    have hm := hat.mny
    have lenW : ((hs.drop lo).take room).length = room := by simp; omega
    have h1' : (st ++ mS hs beg FD (ord ++ [a]))[st.length + 1]? = some (.dct (mK (ord ++ [a])) (mV hs beg (ord ++ [a]))) := at1
    have h0' : (st ++ mS hs beg FD (ord ++ [a]))[st.length]? = some (.lst (iD FD)) := at0
    have s1 : (st ++ mS hs beg FD ord).set (st.length + 1) (.dct (mK ord ++ [.int (2 * (a : Int))]) (mV hs beg ord ++ [.int (2 * ((beg : Int) + (tot hs ord : Nat)))])) = st ++ mS hs beg FD (ord ++ [a]) := by
      rw [show st ++ mS hs beg FD (ord ++ [a]) = st ++ [.lst (iD FD), .dct (mK ord ++ [.int (2 * (a : Int))]) (mV hs beg ord ++ [.int (2 * ((beg : Int) + (tot hs ord : Nat)))])] by simp [mS, mV_new hin, mK]]
      exact set1
    have s0 : (st ++ mS hs beg FD (ord ++ [a])).set st.length (.lst (iD (FD ++ raw hs a))) = st ++ mS hs beg (FD ++ raw hs a) (ord ++ [a]) := set0
    have sl : oSl (.tup (iD ((hs.drop lo).take room))) (some ((a : Int) - lo)) (some ((a : Int) - lo + 1 + hd / 10 % 256)) (st ++ mS hs beg FD (ord ++ [a])) = some (.tup (iD (raw hs a)), st ++ mS hs beg FD (ord ++ [a])) := by
      unfold siz at p2
      rw [ev_slT (a := a - lo) (b := a - lo + siz hs a) (by omega) (by unfold siz; omega) (by omega) (by rw [iD_length, lenW]; unfold siz; omega), iD_cut, show a - lo + siz hs a - (a - lo) = siz hs a by omega, part_raw P ha]
    rw [ev_sSeq (e1 := vE hs lo room beg st.length (2 * (a : Int)) (some (.int ((a : Int) - lo)))) (st1 := st ++ mS hs beg (FD ++ raw hs a) (ord ++ [a])) (by
      unfold m_moved_word_2
      rw [ev_if_t (st1 := st ++ mS hs beg FD ord) (by simp [t_moved_word_2, vE, ev_din h1, dGet_none (fun z => hin (mK_mem.mp z))])]
      unfold b_moved_word_2t
      rw [ev_sSeq (e1 := vE hs lo room beg st.length (2 * (a : Int)) (some (.int ((a : Int) - lo)))) (st1 := st ++ mS hs beg FD ord) (by simp [m_moved_word_2t1, vE, ev_divI, half])]
      rw [ev_sSeq (e1 := vE hs lo room beg st.length (2 * (a : Int)) (some (.int ((a : Int) - lo)))) (st1 := st ++ mS hs beg FD (ord ++ [a])) (by
        simp [m_moved_word_2t2, vE, fLen_seq (seq_ref h0), ev_mulI, setIx_dct h1 keyI (show (mK ord).length < sizeLine by simp [mK]; omega), dPut_new (fun z => hin (mK_mem.mp z)), hF, s1])]
      simp [m_moved_word_2t3, vE, tyL_ref h0', ev_ixT (i := a - lo) (show (a : Int) - lo = ((a - lo : Nat) : Int) by omega) (iD_get (part_at P ha hat)), g_many_of, sl, ext_ref h0' (show FD.length + (raw hs a).length ≤ sizeLine by rw [raw_len hat]; unfold siz; have := mny_le (hs := hs) (a := a); unfold tot at hF; omega), s0]
      simp [mS])]
    have h1'' : (st ++ mS hs beg (FD ++ raw hs a) (ord ++ [a]))[st.length + 1]? = some (.dct (mK (ord ++ [a])) (mV hs beg (ord ++ [a]))) := at1
    have g := mV_get (hs := hs) (beg := beg) (ord := ord ++ [a]) (a := a) (by simp)
    rw [off_new hin] at g
    simp [m_moved_word_3, vE, ev_dget h1'' g]
end
end K69
end FW

set_option maxHeartbeats 4000000
namespace FW
namespace K69
open PySem L2

/-! ### gathered -/
def grow (hs : List Int) : List Nat → List Int → List Int
  | _, [] => []
  | ord, w :: ws => gro hs ord w ++ grow hs (place ord w) ws
theorem gro_news {hs : List Int} {ord : List Nat} {w : Int} : ∃ m, place ord w = ord ++ m ∧ gro hs ord w = news hs m := by
  unfold place gro
  split
  · exact ⟨[], by simp, rfl⟩
  · split
    · exact ⟨[], by simp, rfl⟩
    · exact ⟨[wA w], rfl, by simp [news]⟩
theorem grow_news {hs : List Int} : ∀ {ws : List Int} {ord : List Nat}, ∃ m, places ord ws = ord ++ m ∧ grow hs ord ws = news hs m
  | [], ord => ⟨[], by simp [places], rfl⟩
  | w :: ws, ord => by
    obtain ⟨m, h1, h2⟩ := gro_news (hs := hs) (ord := ord) (w := w)
    obtain ⟨m2, h3, h4⟩ := grow_news (hs := hs) (ws := ws) (ord := place ord w)
    exact ⟨m ++ m2, by rw [places_cons, h3, h1, List.append_assoc], by rw [grow, h2, h4, news_app]⟩
theorem gro_len {hs : List Int} {A : Nat → Prop} {room : Nat} (G : Good hs A room) {ord : List Nat} {w : Int} (hw : Wd A w) : (gro hs ord w).length + tot hs ord = tot hs (place ord w) := by
  obtain ⟨m, h1, h2⟩ := gro_news (hs := hs) (ord := ord) (w := w)
  have := place_A (A := A) (ord := []) (w := w) (by simp) hw
  unfold gro place
  split
  · simp
  · split
    · simp
    · rename_i n1 n2
      have ha : A (wA w) := by
        rcases hw with z | ⟨b, z, hb⟩
        · contradiction
        · rw [z, wA2]; exact hb
      obtain ⟨v, hv⟩ := G.at_ _ ha
      rw [raw_len hv, tot_app]
      simp [tot]
      omega
theorem fwd_places {hs : List Int} {beg : Nat} {ord : List Nat} {w : Int} {ws : List Int} (h : Has ord w) : fwd hs beg (places ord ws) w = fwd hs beg ord w := by
  obtain ⟨m, hm⟩ := places_app (ws := ws) (ord := ord)
  rw [hm, fwd_app h]
section
variable {hs : List Int} {lo room beg : Nat} {A : Nat → Prop} {st : Store}
def gE (hs : List Int) (lo room beg n : Nat) (R : D) (x6 x7 x8 x9 : Option D) : Env := [some (.tup (iD ((hs.drop lo).take room))), some (.int lo), some (.int beg), some R, some (.ref n), some (.ref (n + 1)), x6, x7, x8, x9]
theorem groots (G : Good hs A room) (P : Part hs lo room A) (hr : room ≤ 2900) {R : D} {x7 x8 x9 : Option D} {ds0 : List D} : ∀ (vs acc : List Int) (FD : List Int) (ord : List Nat), FD.length = tot hs ord → ord.Nodup → (∀ a ∈ ord, A a) → (∀ w ∈ vs, Wd A w) → acc.length + vs.length ≤ 1000000 →
    lcL ⟨ds0, []⟩ (gN 6) xYes (xCl 6 G_moved_word (aC (xV 0) (aC (xV 1) (aC (xV 2) (aC (xV 4) (aC (xV 5) (aC (xV 6) aN))))))) (gE hs lo room beg st.length R none x7 x8 x9) (iD vs) (iD acc) (st ++ mS hs beg FD ord)
      = some (.ok (.lst (iD (acc ++ vs.map (fwd hs beg (places ord vs))))), st ++ mS hs beg (FD ++ grow hs ord vs) (places ord vs))
  | [], acc, FD, ord, _, _, _, _, _ => by
    rw [iD_nil, lcL, if_pos hold_none]
    simp [grow, places]
  | v :: vs, acc, FD, ord, hF, hnd, hA, hw, hl => by
    simp only [List.length_cons] at hl
    have hv := hw v (by simp)
    have m := g_moved (st := st) (beg := beg) G P hr hF hnd hA hv
    have sz := sizeLine_big
    have len : (FD ++ gro hs ord v).length = tot hs (place ord v) := by
      rw [List.length_append, hF, ← gro_len G hv]; omega
    have ih := groots G P hr (R := R) (x7 := x7) (x8 := x8) (x9 := x9) (ds0 := ds0) vs (acc ++ [fwd hs beg (place ord v) v]) (FD ++ gro hs ord v) (place ord v) len (place_nd hnd) (place_A hA hv) (fun w h => hw w (List.mem_cons_of_mem _ h)) (by simp; omega)
    rw [iD_cons, lcL, if_pos hold_none]
    simp only [ev_gN]
    rw [show (gE hs lo room beg st.length R none x7 x8 x9).set 6 (some (.int v)) = gE hs lo room beg st.length R (some (.int v)) x7 x8 x9 from rfl]
    have el : (xCl 6 G_moved_word (aC (xV 0) (aC (xV 1) (aC (xV 2) (aC (xV 4) (aC (xV 5) (aC (xV 6) aN))))))) (gE hs lo room beg st.length R (some (.int v)) x7 x8 x9) (st ++ mS hs beg FD ord) = some (.ok (.int (fwd hs beg (place ord v) v)), st ++ mS hs beg (FD ++ gro hs ord v) (place ord v)) := by
      simp [gE, m]
    simp only [ev_xYes, el]
    rw [if_pos (by rw [iD_length]; omega)]
    have e1 : iD acc ++ [D.int (fwd hs beg (place ord v) v)] = iD (acc ++ [fwd hs beg (place ord v) v]) := by simp
    rw [e1, ih, places_cons, grow]
    simp only [List.append_assoc, List.map_cons, List.singleton_append, fwd_places (ws := vs) (place_has (ord := ord) (w := v))]
theorem rngD_succ {lo : Int} {n : Nat} : rngD lo (n + 1) = .int lo :: rngD (lo + 1) n := by
  unfold rngD
  rw [List.range_succ_eq_map, List.map_cons, List.map_map]
  simp only [Int.natCast_zero, Int.add_zero, List.cons.injEq, true_and]
  refine List.map_congr_left fun i _ => ?_
  simp only [Function.comp_apply, Nat.succ_eq_add_one, Int.natCast_add, Int.natCast_one, D.int.injEq]
  omega
theorem setIx_lst {st : Store} {k : Nat} {ds : List D} {i : Nat} {v : D} (h : st[k]? = some (.lst ds)) (hi : i < ds.length) : setIx (.ref k) (.int i) v st = some (st.set k (.lst (ds.set i v))) := by
  unfold setIx
  rw [mutL_ref h]
  have : ixN ds.length (i : Int) = some i := by
    unfold ixN
    rw [if_pos (by omega), if_pos (by omega)]
    simp
  simp only [this]
theorem iD_set {ns : List Int} {i : Nat} {v : Int} : (iD ns).set i (.int v) = iD (ns.set i v) := by simp [iD, List.map_set]
theorem gfields (G : Good hs A room) (P : Part hs lo room A) (hr : room ≤ 2900) {R : D} {x6 x7 x8 : Option D} {ds0 : List D} : ∀ (vs X Q : List Int) (ord : List Nat) (x9 : Option D), (X ++ vs ++ Q).length = tot hs ord → ord.Nodup → (∀ a ∈ ord, A a) → (∀ w ∈ vs, Wd A w) →
    ∃ x9', forL ⟨ds0, []⟩ (gN 9) b_gathered_4b2b (rngD (X.length : Nat) vs.length) (gE hs lo room beg st.length R x6 x7 x8 x9) (st ++ mS hs beg (X ++ vs ++ Q) ord)
      = some (.nx (gE hs lo room beg st.length R x6 x7 x8 x9'), st ++ mS hs beg (X ++ vs.map (fwd hs beg (places ord vs)) ++ Q ++ grow hs ord vs) (places ord vs))
  | [], X, Q, ord, x9, _, _, _, _ => ⟨x9, by
    rw [show rngD (X.length : Nat) ([] : List Int).length = [] from rfl, ev_for_nil hold_none]
    simp [grow, places]⟩
  | v :: vs, X, Q, ord, x9, hF, hnd, hA, hw => by
    have hv := hw v (by simp)
    have m := g_moved (st := st) (beg := beg) G P hr hF hnd hA hv
    have few := G.fit ord hnd hA
    have len : (X ++ [fwd hs beg (place ord v) v] ++ vs ++ (Q ++ gro hs ord v)).length = tot hs (place ord v) := by
      rw [← gro_len G hv, ← hF]
      simp only [List.length_append, List.length_cons, List.length_nil]
      omega
    obtain ⟨x9', ih⟩ := gfields G P hr (R := R) (x6 := x6) (x7 := x7) (x8 := x8) (ds0 := ds0) vs (X ++ [fwd hs beg (place ord v) v]) (Q ++ gro hs ord v) (place ord v) (some (.int (X.length : Nat))) len (place_nd hnd) (place_A hA hv) (fun w h => hw w (List.mem_cons_of_mem _ h))
    refine ⟨x9', ?_⟩
    have h0 : (st ++ mS hs beg (X ++ v :: vs ++ Q) ord)[st.length]? = some (.lst (iD (X ++ v :: vs ++ Q))) := at0
    have h0' : (st ++ mS hs beg (X ++ v :: vs ++ Q ++ gro hs ord v) (place ord v))[st.length]? = some (.lst (iD (X ++ v :: vs ++ Q ++ gro hs ord v))) := at0
    have rd : oIx (.ref st.length) (.int (X.length : Nat)) (st ++ mS hs beg (X ++ v :: vs ++ Q) ord) = some (.int v, st ++ mS hs beg (X ++ v :: vs ++ Q) ord) := ev_ixR h0 rfl (iD_get (by simp))
    have st1 : setIx (.ref st.length) (.int (X.length : Nat)) (.int (fwd hs beg (place ord v) v)) (st ++ mS hs beg (X ++ v :: vs ++ Q ++ gro hs ord v) (place ord v)) = some (st ++ mS hs beg (X ++ [fwd hs beg (place ord v) v] ++ vs ++ (Q ++ gro hs ord v)) (place ord v)) := by
      rw [setIx_lst h0' (by simp), iD_set]
      have e : (X ++ v :: vs ++ Q ++ gro hs ord v).set X.length (fwd hs beg (place ord v) v) = X ++ [fwd hs beg (place ord v) v] ++ vs ++ (Q ++ gro hs ord v) := by
        rw [show X ++ v :: vs ++ Q ++ gro hs ord v = X ++ (v :: (vs ++ Q ++ gro hs ord v)) by simp, List.set_append_right _ _ (Nat.le_refl _)]
        simp
      rw [e]
      exact congrArg some set0
    have body : b_gathered_4b2b (gE hs lo room beg st.length R x6 x7 x8 (some (.int (X.length : Nat)))) (st ++ mS hs beg (X ++ v :: vs ++ Q) ord) = some (.nx (gE hs lo room beg st.length R x6 x7 x8 (some (.int (X.length : Nat)))), st ++ mS hs beg (X ++ [fwd hs beg (place ord v) v] ++ vs ++ (Q ++ gro hs ord v)) (place ord v)) := by
      generalize st ++ mS hs beg (X ++ v :: vs ++ Q) ord = S1 at rd m
      generalize st ++ mS hs beg (X ++ v :: vs ++ Q ++ gro hs ord v) (place ord v) = S2 at m st1
      generalize st ++ mS hs beg (X ++ [fwd hs beg (place ord v) v] ++ vs ++ (Q ++ gro hs ord v)) (place ord v) = S3 at st1
      simp [b_gathered_4b2b, m_gathered_4b2b1, gE, rd, m, st1]
    rw [List.length_cons, rngD_succ, ev_for_cons hold_none (e1 := gE hs lo room beg st.length R x6 x7 x8 (some (.int (X.length : Nat)))) (st1 := st ++ mS hs beg (X ++ v :: vs ++ Q) ord) rfl body]
    rw [show ((X.length : Nat) : Int) + 1 = ((X ++ [fwd hs beg (place ord v) v]).length : Nat) by simp, ih, places_cons, grow]
    simp only [List.append_assoc, List.map_cons, List.singleton_append, List.cons_append, List.nil_append, fwd_places (ws := vs) (place_has (ord := ord) (w := v))]
end
end K69
end FW

set_option maxHeartbeats 4000000
namespace FW
namespace K69
open PySem L2

def hdr (hs : List Int) (a : Nat) : Int := hs.getD a 0
theorem At.hdr {hs : List Int} {a : Nat} {w : Int} (h : At hs a w) : K69.hdr hs a = w := by unfold K69.hdr; rw [List.getD_eq_getElem?_getD, h.1]; rfl
def row (hs : List Int) (beg : Nat) (ord : List Nat) (a : Nat) : List Int := hdr hs a :: (fls hs a).map (fwd hs beg ord)
def rows (hs : List Int) (beg : Nat) (ord l : List Nat) : List Int := (l.map (row hs beg ord)).flatten
theorem rows_app {hs : List Int} {beg : Nat} {ord l m : List Nat} : rows hs beg ord (l ++ m) = rows hs beg ord l ++ rows hs beg ord m := by simp [rows]
theorem rows_len {hs : List Int} {beg : Nat} {ord : List Nat} : ∀ {l : List Nat}, (∀ a ∈ l, ∃ w, At hs a w) → (rows hs beg ord l).length = tot hs l
  | [], _ => rfl
  | a :: l, h => by
    obtain ⟨w, hw⟩ := h a (by simp)
    have ih := rows_len (beg := beg) (ord := ord) (l := l) fun x hx => h x (List.mem_cons_of_mem _ hx)
    simp only [rows] at ih
    simp only [rows, List.map_cons, List.flatten_cons, List.length_append, ih, row, List.length_cons, List.length_map, hw.len, tot, List.sum_cons, siz]
    omega
theorem rows_stable {hs : List Int} {beg : Nat} {ord m l : List Nat} (h : ∀ a ∈ l, ∀ w ∈ fls hs a, Has ord w) : rows hs beg (ord ++ m) l = rows hs beg ord l := by
  unfold rows
  congr 1
  refine List.map_congr_left fun a ha => ?_
  unfold row
  congr 1
  exact List.map_congr_left fun w hw => fwd_app (h a ha w hw)
theorem split_at {l : List Nat} {k a : Nat} (h : l[k]? = some a) : l = l.take k ++ a :: l.drop (k + 1) := by
  obtain ⟨h1, h2⟩ := List.getElem?_eq_some_iff.mp h
  rw [← h2, ← List.drop_eq_getElem_cons h1, List.take_append_drop]
theorem i62_small {x : Int} (h1 : 0 ≤ x) (h2 : x < 1000000) : i62 x = true := by
  have a : decide (-(2 ^ 62) ≤ x) = true := decide_eq_true (by omega)
  have b : decide (x < 2 ^ 62) = true := decide_eq_true (by omega)
  unfold i62
  rw [a, b]
  rfl
theorem rng2_small {x y : Int} {st : Store} (h1 : 0 ≤ x) (h2 : x < 1000000) (h3 : 0 ≤ y) (h4 : y < 1000000) : rng2 [.int x, .int y] st = some ⟨rngD x (y - x).toNat, []⟩ := by
  unfold rng2
  simp only [i62_small h1 h2, i62_small h3 h4, Bool.and_self, if_true]
theorem rng1_small {y : Int} {st : Store} (h3 : 0 ≤ y) (h4 : y < 1000000) : rng1 [.int y] st = some ⟨rngD 0 y.toNat, []⟩ := by
  unfold rng1
  simp only [i62_small h3 h4, if_true]
section
variable {hs : List Int} {lo room beg : Nat} {A : Nat → Prop} {st : Store}
theorem gwhile (G : Good hs A room) (P : Part hs lo room A) (hr : room ≤ 2900) {R : D} {x6 : Option D} {k : Nat} {ord ord' : List Nat} (s : Scan hs k ord ord') : ∀ (x8 x9 : Option D), k ≤ ord.length → ord.Nodup → (∀ a ∈ ord, A a) → (∀ a ∈ ord.take k, ∀ w ∈ fls hs a, Has ord w) →
    ∃ x8' x9' x7', WhR t_gathered_4 b_gathered_4b (gE hs lo room beg st.length R x6 (some (.int (tot hs (ord.take k) : Nat))) x8 x9) (st ++ mS hs beg (rows hs beg ord (ord.take k) ++ news hs (ord.drop k)) ord)
      (.nx (gE hs lo room beg st.length R x6 x7' x8' x9'), st ++ mS hs beg (rows hs beg ord' ord') ord') := by
  induction s with
  | @done k ord hk =>
    intro x8 x9 _ hnd hA hH
    have e1 : ord.take k = ord := List.take_of_length_le (by omega)
    have e2 : ord.drop k = [] := List.drop_eq_nil_of_le (by omega)
    rw [e1, e2]
    have e3 : rows hs beg ord ord ++ news hs [] = rows hs beg ord ord := by simp [news]
    rw [e3]
    have h0 : (st ++ mS hs beg (rows hs beg ord ord) ord)[st.length]? = some (.lst (iD (rows hs beg ord ord))) := at0
    refine ⟨x8, x9, some (.int (tot hs ord : Nat)), .stop (st1 := st ++ mS hs beg (rows hs beg ord ord) ord) ?_⟩
    simp [t_gathered_4, gE, fLen_seq (seq_ref h0), rows_len (beg := beg) (ord := ord) (fun a ha => G.at_ a (hA a ha))]
  | @step k ord ord' a ha s ih =>
    intro x8 x9 hk hnd hA hH
    have hlt : k < ord.length := (List.getElem?_eq_some_iff.mp ha).1
    have hAa := hA a (List.mem_of_getElem? ha)
    obtain ⟨w, hw⟩ := G.at_ a hAa
    obtain ⟨m, hm, hg⟩ := grow_news (hs := hs) (ws := fls hs a) (ord := ord)
    have sp := split_at ha
    generalize hl1 : ord.take k = l1 at *
    generalize hl2 : ord.drop (k + 1) = l2 at *
    have hdrop : ord.drop k = a :: l2 := by rw [← hl2, List.drop_eq_getElem_cons hlt, (List.getElem?_eq_some_iff.mp ha).2]
    have hl1l : l1.length = k := by rw [← hl1, List.length_take]; omega
    have A1 : ∀ b ∈ l1, ∃ w, At hs b w := fun b hb => G.at_ b (hA b (by rw [sp]; exact List.mem_append_left _ hb))
    have A2 : ∀ b ∈ l2, ∃ w, At hs b w := fun b hb => G.at_ b (hA b (by rw [sp]; exact List.mem_append_right _ (List.mem_cons_of_mem _ hb)))
    have few := G.fit ord hnd hA
    have tt : tot hs ord = tot hs l1 + siz hs a + tot hs l2 := by rw [sp]; simp [tot]; omega
    have tle : tot hs ord ≤ room := few
    have FD : rows hs beg ord l1 ++ news hs (ord.drop k) = rows hs beg ord l1 ++ [w] ++ fls hs a ++ news hs l2 := by
      rw [hdrop]
      simp [news, raw_eq hw]
    have rl := rows_len (beg := beg) (ord := ord) A1
    have nl := news_len A2
    have mm := hw.mny
    have fl := hw.len
    rw [FD]
    have h0 : (st ++ mS hs beg (rows hs beg ord l1 ++ [w] ++ fls hs a ++ news hs l2) ord)[st.length]? = some (.lst (iD (rows hs beg ord l1 ++ [w] ++ fls hs a ++ news hs l2))) := at0
    have full : (rows hs beg ord l1 ++ [w] ++ fls hs a ++ news hs l2).length = tot hs ord := by
      simp only [List.length_append, List.length_singleton, rl, nl, fl, tt, siz]; omega
    have rd : oIx (.ref st.length) (.int (tot hs l1 : Nat)) (st ++ mS hs beg (rows hs beg ord l1 ++ [w] ++ fls hs a ++ news hs l2) ord) = some (.int w, st ++ mS hs beg (rows hs beg ord l1 ++ [w] ++ fls hs a ++ news hs l2) ord) := by
      refine ev_ixR h0 rfl (iD_get ?_)
      rw [← rl]
      simp
    -- the turn
    obtain ⟨x9', inner⟩ := gfields (st := st) (beg := beg) G P hr (R := R) (x6 := x6) (x7 := some (.int (tot hs l1 : Nat))) (x8 := some (.int ((tot hs l1 : Nat) + 1 + w / 10 % 256))) (ds0 := rngD (tot hs l1 + 1 : Nat) (mny hs a)) (fls hs a) (rows hs beg ord l1 ++ [w]) (news hs l2) ord x9 full hnd hA (G.fl a hAa)
    rw [hm, hg] at inner
    have st1 : ∀ b ∈ l1, ∀ w ∈ fls hs b, Has ord w := hH
    have FD2 : rows hs beg ord l1 ++ [w] ++ (fls hs a).map (fwd hs beg (ord ++ m)) ++ news hs l2 ++ news hs m = rows hs beg (ord ++ m) (l1 ++ [a]) ++ news hs (l2 ++ m) := by
      rw [rows_app, rows_stable st1, news_app]
      simp [rows, row, hw.hdr]
    rw [FD2] at inner
    have tk : (places ord (fls hs a)).take (k + 1) = l1 ++ [a] := by
      rw [hm, sp]
      rw [show l1 ++ a :: l2 ++ m = (l1 ++ [a]) ++ (l2 ++ m) by simp, List.take_left' (by simp [hl1l])]
    have dk : (places ord (fls hs a)).drop (k + 1) = l2 ++ m := by
      rw [hm, sp]
      rw [show l1 ++ a :: l2 ++ m = (l1 ++ [a]) ++ (l2 ++ m) by simp, List.drop_left' (by simp [hl1l])]
    obtain ⟨y8, y9, y7, wh⟩ := ih (some (.int ((tot hs l1 : Nat) + 1 + w / 10 % 256))) x9' (by rw [hm]; simp; omega) (places_nd hnd) (places_A hA (G.fl a hAa)) (by
      rw [tk]
      intro b hb v hv
      rcases List.mem_append.mp hb with z | z
      · rw [hm]; exact (st1 b z v hv).app
      · simp at z; subst z; exact places_has v hv)
    rw [tk, dk] at wh
    rw [hm] at wh
    have tt2 : tot hs (l1 ++ [a]) = tot hs l1 + siz hs a := by simp [tot]
    refine ⟨y8, y9, y7, .next (st1 := st ++ mS hs beg (rows hs beg ord l1 ++ [w] ++ fls hs a ++ news hs l2) ord) ?_ ?_ wh⟩
    · have lt : tot hs l1 < tot hs ord := by rw [tt]; unfold siz; omega
      have fl2 := fLen_seq (seq_ref h0)
      rw [iD_length, full] at fl2
      generalize st ++ mS hs beg (rows hs beg ord l1 ++ [w] ++ fls hs a ++ news hs l2) ord = S1 at *
      simp [t_gathered_4, gE, fl2, lt]
    · unfold b_gathered_4b
      have it : ∀ S : Store, rng2 [.int ((tot hs l1 : Nat) + 1), .int ((tot hs l1 : Nat) + 1 + w / 10 % 256)] S = some ⟨rngD (tot hs l1 + 1 : Nat) (mny hs a), []⟩ := by
        intro S
        rw [rng2_small (by omega) (by omega) (by omega) (by omega)]
        rw [show ((tot hs l1 : Nat) : Int) + 1 + w / 10 % 256 - (((tot hs l1 : Nat) : Int) + 1) = (mny hs a : Nat) by omega]
        simp
      rw [show (rows hs beg ord l1 ++ [w]).length = tot hs l1 + 1 by simp [rl], fl] at inner
      generalize st ++ mS hs beg (rows hs beg ord l1 ++ [w] ++ fls hs a ++ news hs l2) ord = S1 at *
      rw [ev_sSeq (e1 := gE hs lo room beg st.length R x6 (some (.int (tot hs l1 : Nat))) (some (.int ((tot hs l1 : Nat) + 1 + w / 10 % 256))) x9) (st1 := S1) (by simp [m_gathered_4b1, gE, rd, g_many_of])]
      rw [ev_sSeq (e1 := gE hs lo room beg st.length R x6 (some (.int (tot hs l1 : Nat))) (some (.int ((tot hs l1 : Nat) + 1 + w / 10 % 256))) x9') (st1 := st ++ mS hs beg (rows hs beg (ord ++ m) (l1 ++ [a]) ++ news hs (l2 ++ m)) (ord ++ m)) (by
        refine Eq.trans ?_ inner
        unfold m_gathered_4b2
        have ar : (aC (x2 oAdd (xV 7) (xC (.int 1))) (aC (xV 8) aN)) (gE hs lo room beg st.length R x6 (some (.int (tot hs l1 : Nat))) (some (.int ((tot hs l1 : Nat) + 1 + w / 10 % 256))) x9) S1 = some (.ok [.int ((tot hs l1 : Nat) + 1), .int ((tot hs l1 : Nat) + 1 + w / 10 % 256)], S1) := by simp [gE]
        rw [ev_sFor, ev_iOf, ar, ev_bnd_ok, it, ev_bndS_ok])]
      generalize st ++ mS hs beg (rows hs beg (ord ++ m) (l1 ++ [a]) ++ news hs (l2 ++ m)) (ord ++ m) = S2 at *
      rw [tt2]
      simp [m_gathered_4b3, gE, siz]
      omega
end
end K69
end FW

set_option maxHeartbeats 4000000
namespace FW
namespace K69
open PySem L2

section
variable {hs : List Int} {lo room beg : Nat} {A : Nat → Prop} {st : Store} {ws : List Int} {ord : List Nat}
theorem g_gathered (G : Good hs A room) (P : Part hs lo room A) (hr : room ≤ 2900) (hw : ∀ w ∈ ws, Wd A w) (hl : ws.length ≤ 1000) (wf : Wf st) (s : Scan hs 0 (places [] ws) ord) :
    G_gathered [.tup (iD ((hs.drop lo).take room)), .int lo, .int beg, .tup (iD ws)] st = some (.tup [.lst (iD (rows hs beg ord ord)), .lst (iD (ws.map (fwd hs beg ord)))], st) := by
  obtain ⟨m, hm, hg⟩ := grow_news (hs := hs) (ws := ws) (ord := [])
  obtain ⟨m2, hm2⟩ := s.app
  have nd0 : (places [] ws).Nodup := places_nd (by simp)
  have A0 : ∀ a ∈ places [] ws, A a := places_A (by simp) hw
  have sz := sizeLine_big
  obtain ⟨y8, y9, y7, wh⟩ := gwhile (st := st) (beg := beg) G P hr (R := .lst (iD (ws.map (fwd hs beg (places [] ws))))) (x6 := none) s none none (by omega) nd0 A0 (by simp)
  have fr : ws.map (fwd hs beg (places [] ws)) = ws.map (fwd hs beg ord) := by
    refine List.map_congr_left fun w hw' => ?_
    rw [hm2, fwd_app (places_has w hw')]
  have gr := groots (st := st) (beg := beg) G P hr (R := .tup (iD ws)) (x7 := none) (x8 := none) (x9 := none) (ds0 := iD ws) ws [] [] [] (by simp [tot]) (by simp) (by simp) hw (by simp; omega)
  have e0 : rows hs beg (places [] ws) ((places [] ws).take 0) ++ news hs ((places [] ws).drop 0) = [] ++ grow hs [] ws := by
    rw [hg]
    have : places [] ws = m := by rw [hm]; simp
    simp [rows, this]
  rw [e0, show tot hs ((places [] ws).take 0) = 0 by simp [tot], Int.natCast_zero] at wh
  have F : F_gathered [.tup (iD ((hs.drop lo).take room)), .int lo, .int beg, .tup (iD ws)] st = some (.tup [.ref st.length, .lst (iD (ws.map (fwd hs beg ord)))], st ++ mS hs beg (rows hs beg ord ord) ord) := by
    refine runF_rt ?_
    unfold m_gathered
    rw [show env0 10 [.tup (iD ((hs.drop lo).take room)), .int lo, .int beg, .tup (iD ws)] = [some (.tup (iD ((hs.drop lo).take room))), some (.int lo), some (.int beg), some (.tup (iD ws)), none, none, none, none, none, none] from rfl]
    rw [ev_sSeq (e1 := gE hs lo room beg st.length (.tup (iD ws)) none none none none) (st1 := st ++ mS hs beg [] []) (by simp [m_gathered_1, gT, gsC, gE, mS, mK, mV, sizeLine_eq])]
    rw [ev_sSeq (e1 := gE hs lo room beg st.length (.lst (iD (ws.map (fwd hs beg (places [] ws))))) none none none none) (st1 := st ++ mS hs beg ([] ++ grow hs [] ws) (places [] ws)) (by
      unfold m_gathered_2
      rw [ev_sAsg, ev_xVal, ev_xLc]
      have it : iSeq (xV 3) (gE hs lo room beg st.length (.tup (iD ws)) none none none none) (st ++ mS hs beg [] []) = some (.ok ⟨iD ws, []⟩, st ++ mS hs beg [] []) := by simp [gE, itV]
      rw [it, ev_bnd_ok]
      rw [show wipeE (gE hs lo room beg st.length (.tup (iD ws)) none none none none) [6] = gE hs lo room beg st.length (.tup (iD ws)) none none none none from rfl]
      rw [show ([] : List D) = iD [] from rfl]
      rw [gr]
      rfl)]
    rw [ev_sSeq (e1 := gE hs lo room beg st.length (.lst (iD (ws.map (fwd hs beg (places [] ws))))) none (some (.int 0)) none none) (st1 := st ++ mS hs beg ([] ++ grow hs [] ws) (places [] ws)) (by simp [m_gathered_3, gE])]
    rw [ev_sSeq (show m_gathered_4 _ _ = _ from ev_while wh)]
    rw [fr]
    simp [m_gathered_5, gE, sizeLine_eq]
  refine tell_of F (Cut.same wf) (.tup (.cons (.olst (Nat.le_refl _) at0 (Fzs.refl lts_iD)) (.cons (Fz.refl (by simp only [Lt]; exact lts_iD)) .nil)))
/-- the heap behind a collection -/
def newH (room beg : Nat) (found : List Int) : List Int := List.replicate beg 0 ++ found ++ List.replicate (2 * room - beg - found.length) 0
theorem rep_iD {n : Nat} : (List.replicate n [D.int 0]).flatten = iD (List.replicate n 0) := by
  induction n with
  | zero => rfl
  | succ n ih => rw [List.replicate_succ, List.flatten_cons, ih, List.replicate_succ]; rfl
theorem small63a {n : Nat} (hn : n ≤ 1000000) : -(2 ^ 63) ≤ (n : Int) := by omega
theorem small63b {n : Nat} (hn : n ≤ 1000000) : (n : Int) < 2 ^ 63 := by omega
theorem fitz {n : Nat} (hn : n ≤ 1000000) : n ≤ sizeLine := Nat.le_trans hn sizeLine_big
theorem zc {n : Nat} (hn : n ≤ 1000000) : [D.int 0].length * (n : Int).toNat ≤ sizeLine := by
  rw [Int.toNat_natCast, List.length_singleton, Nat.one_mul]
  exact fitz hn
theorem zd {n : Nat} {st : Store} (h : -(2 ^ 63) ≤ (n : Int) ∧ (n : Int) < 2 ^ 63 ∧ [D.int 0].length * (n : Int).toNat ≤ sizeLine) : oMul (.lst [.int 0]) (.int n) st = some (.lst (List.replicate (n : Int).toNat [D.int 0]).flatten, st) := by
  unfold oMul
  simp only [lstOf]
  exact if_pos h
theorem ev_zeros {k : Int} {n : Nat} {st : Store} (h : k = (n : Int)) (hn : n ≤ 1000000) : oMul (.lst [.int 0]) (.int k) st = some (.lst (iD (List.replicate n 0)), st) := by
  subst h
  rw [zd ⟨small63a hn, small63b hn, zc hn⟩, Int.toNat_natCast, rep_iD]
theorem newH_len {room beg : Nat} {found : List Int} (h : beg + found.length ≤ 2 * room) : (newH room beg found).length = 2 * room := by
  unfold newH
  rw [List.length_append, List.length_append, List.length_replicate, List.length_replicate]
  omega
theorem g_spread {found : List Int} {h : Nat} (hh : h ≤ 1) (hr : room ≤ 2900) (hf : found.length ≤ room) : G_spread [.int room, .int h, .lst (iD found)] st = some (.tup (iD (newH room (room * h) found)), st) := by
  refine runF_rt ?_
  have z1 : oMul (.int (room : Int)) (.int (h : Int)) st = some (.int ((room * h : Nat) : Int), st) := by
    rw [ev_mulI (by omega)]; simp
  have hm : room * h ≤ room := by
    rcases Nat.le_one_iff_eq_zero_or_eq_one.mp hh with e | e <;> subst e <;> simp
  have z2 : oMul (.int (room : Int)) (.int (2 - (h : Int))) st = some (.int ((2 * room - room * h : Nat) : Int), st) := by
    rw [ev_mulI (by omega), show (room : Int) * (2 - (h : Int)) = ((2 * room - room * h : Nat) : Int) by rcases Nat.le_one_iff_eq_zero_or_eq_one.mp hh with e | e <;> subst e <;> simp <;> omega]
  have z3 : oSub (.int ((2 * room - room * h : Nat) : Int)) (.int (found.length : Nat)) st = some (.int ((2 * room - room * h - found.length : Nat) : Int), st) := by
    rw [ev_subI, show ((2 * room - room * h : Nat) : Int) - (found.length : Nat) = ((2 * room - room * h - found.length : Nat) : Int) by omega]
  have a1 := ev_zeros (st := st) (k := ((room * h : Nat) : Int)) rfl (by omega)
  have a2 := ev_zeros (st := st) (k := ((2 * room - room * h - found.length : Nat) : Int)) rfl (by omega)
  have len : (newH room (room * h) found).length ≤ 1000000 := by rw [newH_len (by omega)]; omega
  simp only [m_spread, m_spread_1, ev_sRet, ev_xTup]
  generalize ((room * h : Nat) : Int) = Z1 at z1 a1
  generalize ((2 * room - room * h : Nat) : Int) = Z2 at z2 z3
  generalize ((2 * room - room * h - found.length : Nat) : Int) = Z3 at z3 a2
  have ar : (aStar (x2 oMul (xVal (xLst (aC (xC (.int 0)) aN))) (x2 oMul (xV 0) (xV 1))) (aStar (xV 2) (aStar (x2 oMul (xVal (xLst (aC (xC (.int 0)) aN))) (x2 oSub (x2 oMul (xV 0) (x2 oSub (xC (.int 2)) (xV 1))) (xN fLen (aC (xV 2) aN)))) aN))) (env0 3 [.int room, .int h, .lst (iD found)]) st = some (.ok (iD (newH room (room * h) found)), st) := by
    simp [env0, sizeLine_eq, z1, a1, seqOf, rdlOf, z2, fLen_seq (show seqOf (.lst (iD found)) st = some (iD found) from rfl), z3, a2, newH]
  rw [ar, ev_bnd_ok, if_pos (by rw [iD_length]; exact fitz len)]
  rfl
theorem g_collected {h : Nat} (hh : h ≤ 1) (hlen : hs.length = 2 * room) (G : Good hs A room) (P : Part hs (room * h) room A) (hr : room ≤ 2900) (hw : ∀ w ∈ ws, Wd A w) (hl : ws.length ≤ 1000) (wf : Wf st) (s : Scan hs 0 (places [] ws) ord) :
    G_collected [.tup (iD hs), .int room, .int h, .tup (iD ws)] st = some (.tup [.tup (iD (newH room (room * (1 - h)) (rows hs (room * (1 - h)) ord ord))), .int ((room * (1 - h) + tot hs ord : Nat) : Int), .tup (iD (ws.map (fwd hs (room * (1 - h)) ord)))], st) := by
  refine runF_rt ?_
  have nd := s.nd (places_nd (by simp))
  have hA := s.inA G (places_A (by simp) hw)
  have few := G.fit ord nd hA
  have rl := rows_len (hs := hs) (beg := room * (1 - h)) (ord := ord) (l := ord) fun a ha => G.at_ a (hA a ha)
  have gg := g_gathered (beg := room * (1 - h)) (st := st) G P hr hw hl wf s
  have sp := g_spread (st := st) (found := rows hs (room * (1 - h)) ord ord) (h := 1 - h) (by omega) hr (by rw [rl]; exact few)
  have z1 : oMul (.int (room : Int)) (.int (1 - (h : Int))) st = some (.int ((room * (1 - h) : Nat) : Int), st) := by
    rw [ev_mulI (by omega), show (room : Int) * (1 - (h : Int)) = ((room * (1 - h) : Nat) : Int) by rcases Nat.le_one_iff_eq_zero_or_eq_one.mp hh with e | e <;> subst e <;> simp]
  have z2 : oMul (.int (room : Int)) (.int (h : Int)) st = some (.int ((room * h : Nat) : Int), st) := by
    rw [ev_mulI (by omega)]; simp
  have z3 : oMul (.int (room : Int)) (.int ((h : Int) + 1)) st = some (.int ((room * h + room : Nat) : Int), st) := by
    rw [ev_mulI (by omega), show (room : Int) * ((h : Int) + 1) = ((room * h + room : Nat) : Int) by rw [Int.mul_add]; simp]
  have sl : oSl (.tup (iD hs)) (some ((room * h : Nat) : Int)) (some ((room * h + room : Nat) : Int)) st = some (.tup (iD ((hs.drop (room * h)).take room)), st) := by
    have := P.len
    rw [ev_slT (a := room * h) (b := room * h + room) rfl rfl (by omega) (by rw [iD_length]; exact this), iD_cut, Nat.add_sub_cancel_left]
  have e1 : (1 : Int) - (h : Int) = ((1 - h : Nat) : Int) := by omega
  unfold m_collected
  rw [show env0 6 [.tup (iD hs), .int room, .int h, .tup (iD ws)] = [some (.tup (iD hs)), some (.int room), some (.int h), some (.tup (iD ws)), none, none] from rfl]
  generalize room * (1 - h) = beg at *
  generalize rows hs beg ord ord = RW at *
  generalize ws.map (fwd hs beg ord) = WS at *
  generalize newH room beg RW = NH at *
  rw [ev_sSeq (e1 := [some (.tup (iD hs)), some (.int room), some (.int h), some (.tup (iD ws)), some (.int beg), none]) (st1 := st) (by simp [m_collected_1, z1])]
  rw [ev_sSeq (e1 := [some (.tup (iD hs)), some (.int room), some (.int h), some (.lst (iD WS)), some (.int beg), some (.lst (iD RW))]) (st1 := st) (by
    simp only [m_collected_2, ev_sAsg, ev_xCl]
    have ar : (aC (xSl oSl (xV 0) (pS (x2 oMul (xV 1) (xV 2))) (pS (x2 oMul (xV 1) (x2 oAdd (xV 2) (xC (.int 1)))))) (aC (x2 oMul (xV 1) (xV 2)) (aC (xV 4) (aC (xV 3) aN)))) [some (.tup (iD hs)), some (.int room), some (.int h), some (.tup (iD ws)), some (.int beg), none] st = some (.ok [.tup (iD ((hs.drop (room * h)).take room)), .int ((room * h : Nat) : Int), .int beg, .tup (iD ws)], st) := by
      simp only [ev_aC, ev_xSl, ev_pS, ev_x2, ev_xC, ev_aN, ev_bnd_ok, ev_ok0]
      simp [z2, z3, sl, -Int.natCast_mul, -Int.natCast_add]
    rw [ar, ev_bnd_ok]
    simp only [List.length_cons, List.length_nil, if_true, gg]
    simp [gT, gsC])]
  simp [m_collected_3, e1, sp, fLen_seq (show seqOf (.lst (iD RW)) st = some (iD RW) from rfl), rl, sizeLine_eq, fTuple, rdlOf, -Int.natCast_sub]
end
end K69
end FW

set_option maxHeartbeats 4000000
namespace FW
namespace K69
open PySem L2

/-! ### collected, as the law does it: the places -/
def pV (hs : List Int) (beg : Nat) (ord : List Nat) : List D := ord.map fun (a : Nat) => D.int ((beg + off hs ord a : Nat) : Int)
theorem pV_new {hs : List Int} {beg : Nat} {ord : List Nat} {a : Nat} (h : a ∉ ord) : pV hs beg (ord ++ [a]) = pV hs beg ord ++ [D.int ((beg + tot hs ord : Nat) : Int)] := by
  unfold pV
  rw [List.map_append]
  congr 1
  · refine List.map_congr_left fun b hb => ?_
    rw [off_app hb]
  · simp only [List.map_cons, List.map_nil]
    rw [off_new h]
theorem pV_get {hs : List Int} {beg : Nat} {ord : List Nat} {a : Nat} (h : a ∈ ord) : dGet (nD ord) (pV hs beg ord) (.int (a : Int)) = some (.int ((beg + off hs ord a : Nat) : Int)) :=
  dGet_map (f := fun (a : Nat) => D.int (a : Int)) (g := fun (a : Nat) => D.int ((beg + off hs ord a : Nat) : Int)) (fun x y e => by injection e with e; omega) h
def pS (hs : List Int) (beg : Nat) (ord : List Nat) : Store := [.dct (nD ord) (pV hs beg ord), .lst (nD ord)]
section
variable {hs : List Int} {room beg : Nat} {A : Nat → Prop} {st : Store}
theorem g_placed (G : Good hs A room) (hr : room ≤ 2900) {ord : List Nat} {w : Int} (hnd : ord.Nodup) (hA : ∀ a ∈ ord, A a) (hw : Wd A w) :
    G_law_placed [.tup (iD hs), .int w, .ref st.length, .ref (st.length + 1), .int ((beg + tot hs ord : Nat) : Int)] (st ++ pS hs beg ord) = some (.int ((beg + tot hs (place ord w) : Nat) : Int), st ++ pS hs beg (place ord w)) := by
  refine runF_rt ?_
  have h0 : (st ++ pS hs beg ord)[st.length]? = some (.dct (nD ord) (pV hs beg ord)) := at0
  have few2 := G.few hnd hA
  unfold m_law_placed
  rw [show env0 6 [.tup (iD hs), .int w, .ref st.length, .ref (st.length + 1), .int ((beg + tot hs ord : Nat) : Int)] = [some (.tup (iD hs)), some (.int w), some (.ref st.length), some (.ref (st.length + 1)), some (.int ((beg + tot hs ord : Nat) : Int)), none] from rfl]
  rw [ev_sSeq (e1 := [some (.tup (iD hs)), some (.int w), some (.ref st.length), some (.ref (st.length + 1)), some (.int ((beg + tot hs ord : Nat) : Int)), some (.int (w / 2))]) (st1 := st ++ pS hs beg ord) (by simp [m_law_placed_1, ev_divI])]
  by_cases ho : w % 2 = 1
  · have e1 : place ord w = ord := by unfold place; rw [if_pos ho]
    rw [e1]
    refine ev_sSeq_rt ?_
    unfold m_law_placed_2
    rw [ev_if_t (st1 := st ++ pS hs beg ord) (by
      unfold t_law_placed_2
      exact ev_or_t (by simp [ev_modI, ev_eqI, ho]))]
    simp [b_law_placed_2t, m_law_placed_2t1]
  obtain ⟨a, rfl, ha⟩ : ∃ a : Nat, w = 2 * (a : Int) ∧ A a := by
    rcases hw with z | z
    · contradiction
    · exact z
  rw [half]
  have tst : ∀ b : Bool, (dGet (nD ord) (pV hs beg ord) (.int (a : Int))).isSome = b → t_law_placed_2 [some (.tup (iD hs)), some (.int (2 * (a : Int))), some (.ref st.length), some (.ref (st.length + 1)), some (.int ((beg + tot hs ord : Nat) : Int)), some (.int (a : Int))] (st ++ pS hs beg ord) = some (.ok b, st ++ pS hs beg ord) := by
    intro b hb
    unfold t_law_placed_2
    refine (ev_or_f (st1 := st ++ pS hs beg ord) (by simp [ev_modI, ev_eqI])).trans ?_
    simp [ev_din h0, hb]
  by_cases hin : a ∈ ord
  · have e1 : place ord (2 * (a : Int)) = ord := by unfold place; rw [if_neg ho, wA2, if_pos hin]
    rw [e1]
    refine ev_sSeq_rt ?_
    unfold m_law_placed_2
    rw [ev_if_t (tst true (by rw [pV_get hin]; rfl))]
    simp [b_law_placed_2t, m_law_placed_2t1]
  · have e1 : place ord (2 * (a : Int)) = ord ++ [a] := by unfold place; rw [if_neg ho, wA2, if_neg hin]
    rw [e1]
    obtain ⟨v, hv⟩ := G.at_ a ha
    have few2 := G.few hnd hA
    rw [ev_sSeq (e1 := [some (.tup (iD hs)), some (.int (2 * (a : Int))), some (.ref st.length), some (.ref (st.length + 1)), some (.int ((beg + tot hs ord : Nat) : Int)), some (.int (a : Int))]) (st1 := st ++ pS hs beg ord) (by
      unfold m_law_placed_2
      rw [ev_if_f (tst false (by rw [dGet_none (fun z => hin (nD_mem.mp z))]; rfl))]
      rfl)]
    have s0 : setIx (.ref st.length) (.int (a : Int)) (.int ((beg + tot hs ord : Nat) : Int)) (st ++ pS hs beg ord) = some (st ++ [.dct (nD (ord ++ [a])) (pV hs beg (ord ++ [a])), .lst (nD ord)]) := by
      rw [setIx_dct h0 keyI (by rw [nD_len]; exact Nat.lt_of_lt_of_le (show ord.length < 1000000 by omega) sizeLine_big), dPut_new (fun z => hin (nD_mem.mp z)), pV_new hin]
      simp only [pS, set0]
      simp [nD]
    have h1 : (st ++ [.dct (nD (ord ++ [a])) (pV hs beg (ord ++ [a])), .lst (nD ord)])[st.length + 1]? = some (.lst (nD ord)) := at1
    have s1 : mAppend (.ref (st.length + 1)) [.int (a : Int)] (st ++ [.dct (nD (ord ++ [a])) (pV hs beg (ord ++ [a])), .lst (nD ord)]) = some (.non, st ++ pS hs beg (ord ++ [a])) := by
      rw [app_ref h1 (by rw [nD_len]; exact Nat.lt_of_lt_of_le (show ord.length < 1000000 by omega) sizeLine_big), set1]
      simp [pS, nD]
    have ty := tyL_ref h1
    have e4 : tot hs (ord ++ [a]) = tot hs ord + siz hs a := by simp [tot]
    rw [e4]
    generalize st ++ [.dct (nD (ord ++ [a])) (pV hs beg (ord ++ [a])), .lst (nD ord)] = S1 at *
    generalize hT : ((beg + tot hs ord : Nat) : Int) = T at *
    rw [ev_sSeq (e1 := [some (.tup (iD hs)), some (.int (2 * (a : Int))), some (.ref st.length), some (.ref (st.length + 1)), some (.int T), some (.int (a : Int))]) (st1 := S1) (by simp [m_law_placed_3, s0])]
    rw [ev_sSeq (e1 := [some (.tup (iD hs)), some (.int (2 * (a : Int))), some (.ref st.length), some (.ref (st.length + 1)), some (.int T), some (.int (a : Int))]) (st1 := st ++ pS hs beg (ord ++ [a])) (by simp [m_law_placed_4, ty, s1])]
    simp [m_law_placed_5, g_law_read hv, ix32, fLen_seq (show seqOf (.tup (iD (fls hs a))) _ = some (iD (fls hs a)) from rfl), hv.len]
    unfold siz
    omega
/-- the law's own names -/
def cE (hs : List Int) (room h : Nat) (ws : List Int) (beg n : Nat) (free x8 x9 x10 x11 x12 x13 x14 x15 : Option D) : Env :=
  [some (.tup (iD hs)), some (.int room), some (.int h), some (.lst (iD ws)), some (.int beg), some (.ref n), some (.ref (n + 1)), free, x8, x9, x10, x11, x12, x13, x14, x15, none]
def fr (hs : List Int) (beg : Nat) (ord : List Nat) : Option D := some (.int ((beg + tot hs ord : Nat) : Int))
theorem cbody (G : Good hs A room) (hr : room ≤ 2900) {r0 h : Nat} {ws : List Int} {ord : List Nat} {w : Int} {x9 x10 x11 x12 x13 x14 x15 : Option D} (hnd : ord.Nodup) (hA : ∀ a ∈ ord, A a) (hw : Wd A w) :
    m_law_collected_3b1 (cE hs r0 h ws beg st.length (fr hs beg ord) (some (.int w)) x9 x10 x11 x12 x13 x14 x15) (st ++ pS hs beg ord) = some (.nx (cE hs r0 h ws beg st.length (fr hs beg (place ord w)) (some (.int w)) x9 x10 x11 x12 x13 x14 x15), st ++ pS hs beg (place ord w)) := by
  have g := g_placed (st := st) (beg := beg) G hr hnd hA hw
  unfold fr
  generalize ((beg + tot hs ord : Nat) : Int) = T at *
  generalize ((beg + tot hs (place ord w) : Nat) : Int) = T' at *
  simp [m_law_collected_3b1, cE, g]
theorem cplaces (G : Good hs A room) (hr : room ≤ 2900) {r0 h : Nat} {ws : List Int} {x9 x10 x11 x12 x13 x14 x15 : Option D} {ds0 : List D} : ∀ (vs : List Int) (ord : List Nat) (x8 : Option D), ord.Nodup → (∀ a ∈ ord, A a) → (∀ w ∈ vs, Wd A w) →
    ∃ x8', forL ⟨ds0, []⟩ (gN 8) m_law_collected_3b1 (iD vs) (cE hs r0 h ws beg st.length (fr hs beg ord) x8 x9 x10 x11 x12 x13 x14 x15) (st ++ pS hs beg ord)
      = some (.nx (cE hs r0 h ws beg st.length (fr hs beg (places ord vs)) x8' x9 x10 x11 x12 x13 x14 x15), st ++ pS hs beg (places ord vs))
  | [], ord, x8, _, _, _ => ⟨x8, ev_for_nil hold_none⟩
  | v :: vs, ord, x8, hnd, hA, hw => by
    have hv := hw v (by simp)
    obtain ⟨x8', ih⟩ := cplaces G hr (r0 := r0) (h := h) (ws := ws) (x9 := x9) (x10 := x10) (x11 := x11) (x12 := x12) (x13 := x13) (x14 := x14) (x15 := x15) (ds0 := ds0) vs (place ord v) (some (.int v)) (place_nd hnd) (place_A hA hv) (fun w h => hw w (List.mem_cons_of_mem _ h))
    refine ⟨x8', ?_⟩
    rw [iD_cons, ev_for_cons hold_none (e1 := cE hs r0 h ws beg st.length (fr hs beg ord) (some (.int v)) x9 x10 x11 x12 x13 x14 x15) (st1 := st ++ pS hs beg ord) rfl (cbody G hr hnd hA hv), ih, places_cons]
theorem cwhile (G : Good hs A room) (hr : room ≤ 2900) {r0 h : Nat} {ws : List Int} {x10 x11 x12 x13 x14 x15 : Option D} {k : Nat} {ord ord' : List Nat} (s : Scan hs k ord ord') : ∀ (x8 : Option D), k ≤ ord.length → ord.Nodup → (∀ a ∈ ord, A a) →
    ∃ x8' x9', WhR t_law_collected_5 b_law_collected_5b (cE hs r0 h ws beg st.length (fr hs beg ord) x8 (some (.int k)) x10 x11 x12 x13 x14 x15) (st ++ pS hs beg ord)
      (.nx (cE hs r0 h ws beg st.length (fr hs beg ord') x8' x9' x10 x11 x12 x13 x14 x15), st ++ pS hs beg ord') := by
  have cond : ∀ (k : Nat) (o : List Nat) (x8 : Option D), t_law_collected_5 (cE hs r0 h ws beg st.length (fr hs beg o) x8 (some (.int k)) x10 x11 x12 x13 x14 x15) (st ++ pS hs beg o) = some (.ok (decide (k < o.length)), st ++ pS hs beg o) := by
    intro k o x8
    have h1 : (st ++ pS hs beg o)[st.length + 1]? = some (.lst (nD o)) := at1
    have f := fLen_seq (seq_ref h1)
    rw [nD_len] at f
    simp [t_law_collected_5, cE, f]
  induction s with
  | @done k ord hk =>
    intro x8 _ _ _
    exact ⟨x8, some (.int k), .stop (by rw [cond]; simp; omega)⟩
  | @step k ord ord' a ha s ih =>
    intro x8 hk hnd hA
    have hlt : k < ord.length := (List.getElem?_eq_some_iff.mp ha).1
    have hAa := hA a (List.mem_of_getElem? ha)
    obtain ⟨w, hw⟩ := G.at_ a hAa
    obtain ⟨x8', inner⟩ := cplaces (st := st) (beg := beg) G hr (r0 := r0) (h := h) (ws := ws) (x9 := some (.int k)) (x10 := x10) (x11 := x11) (x12 := x12) (x13 := x13) (x14 := x14) (x15 := x15) (ds0 := iD (fls hs a)) (fls hs a) ord x8 hnd hA (G.fl a hAa)
    obtain ⟨m, hm⟩ := places_app (ws := fls hs a) (ord := ord)
    obtain ⟨y8, y9, wh⟩ := ih x8' (by rw [hm]; simp; omega) (places_nd hnd) (places_A hA (G.fl a hAa))
    have h1 : (st ++ pS hs beg ord)[st.length + 1]? = some (.lst (nD ord)) := at1
    have rd : oIx (.ref (st.length + 1)) (.int (k : Int)) (st ++ pS hs beg ord) = some (.int (a : Int), st ++ pS hs beg ord) := ev_ixR h1 rfl (by rw [nD, List.getElem?_map, ha]; rfl)
    have lr := g_law_read hw (st ++ pS hs beg ord)
    refine ⟨y8, y9, .next (st1 := st ++ pS hs beg ord) (by rw [cond]; simp [hlt]) ?_ wh⟩
    unfold b_law_collected_5b
    generalize st ++ pS hs beg ord = S1 at *
    rw [ev_sSeq (e1 := cE hs r0 h ws beg st.length (fr hs beg (places ord (fls hs a))) x8' (some (.int k)) x10 x11 x12 x13 x14 x15) (st1 := st ++ pS hs beg (places ord (fls hs a))) (by
      refine Eq.trans ?_ inner
      unfold m_law_collected_5b1
      have it : iSeq (x2 oIx (xCl 2 G_law_read (aC (xV 0) (aC (x2 oIx (xV 6) (xV 9)) aN))) (xC (.int 2))) (cE hs r0 h ws beg st.length (fr hs beg ord) x8 (some (.int k)) x10 x11 x12 x13 x14 x15) S1 = some (.ok ⟨iD (fls hs a), []⟩, S1) := by
        simp [cE, rd, lr, ix32, itV]
      rw [ev_sFor, it, ev_bndS_ok]
      rfl)]
    simp [m_law_collected_5b2, cE, ev_sAug (x := .int (k : Int)), fIp]
end
end K69
end FW

set_option maxHeartbeats 4000000
namespace FW
namespace K69
open PySem L2

theorem ev_gSl {mo ma mc : M D} {d o : D} {a c : Int} {e : Env} {st st1 st2 st3 : Store} (h1 : mo e st = some (.ok o, st1)) (h2 : ma e st1 = some (.ok (.int a), st2)) (h3 : mc e st2 = some (.ok (.int c), st3)) : gSl mo ma mc d e st = (setSl o a c d st3).map fun st4 => (e, st4) := by
  unfold gSl
  rw [h1]
  simp only [h2, h3]
theorem ev_pRep {k : Int} {n : Nat} {st : Store} (h : k = (n : Int)) (hn : n ≤ 1000000) : pRep (.lst [.int 0]) (.int k) st = some (.lst (iD (List.replicate n 0))) := by
  subst h
  have e : pRep (.lst [.int 0]) (.int (n : Int)) st = some (.lst (List.replicate (n : Int).toNat [D.int 0]).flatten) := by
    unfold pRep
    simp only [lstOf]
    exact if_pos ⟨small63a hn, small63b hn, zc hn⟩
  rw [e, Int.toNat_natCast, rep_iD]
section
variable {hs : List Int} {room beg : Nat} {A : Nat → Prop} {st : Store}
/-- with the new heap's cells -/
def qS (hs : List Int) (beg : Nat) (ord : List Nat) (X : List Int) : Store := [.dct (nD ord) (pV hs beg ord), .lst (nD ord), .lst (iD X)]
def cE6 (hs : List Int) (room h : Nat) (ws : List Int) (beg n : Nat) (free x8 x9 x10 x11 x12 x13 x14 x15 x16 : Option D) : Env :=
  [some (.tup (iD hs)), some (.int room), some (.int h), some (.lst (iD ws)), some (.int beg), some (.ref n), some (.ref (n + 1)), free, x8, x9, x10, x11, x12, x13, x14, x15, x16]
theorem cfwd {r0 h : Nat} {ws : List Int} {free x8 x9 x10 x11 x12 x13 x14 x15 : Option D} {ord : List Nat} {S : Store} (h0 : S[st.length]? = some (.dct (nD ord) (pV hs beg ord))) {vs : List Int} (hv : ∀ w ∈ vs, Has ord w) (hw : ∀ w ∈ vs, Wd A w) (hl : vs.length ≤ 100000) :
    lcL ⟨iD vs, []⟩ (gN 16) xYes (xIf (xTst (x2 oEqA (x2 oMod (xN fInt (aC (xV 16) aN)) (xC (.int 2))) (xC (.int 0)))) (x2 oMul (xC (.int 2)) (x2 oDGet (xV 5) (x2 oFdiv (xN fInt (aC (xV 16) aN)) (xC (.int 2))))) (xV 16)) (cE6 hs r0 h ws beg st.length free x8 x9 x10 x11 x12 x13 x14 x15 none) (iD vs) [] S
      = some (.ok (.lst (iD (vs.map (fwd hs beg ord)))), S) := by
  rw [lcL_map hold_none (iD vs) [] (fun d => match d with | .int i => .int (fwd hs beg ord i) | d => d) (fun d => cE6 hs r0 h ws beg st.length free x8 x9 x10 x11 x12 x13 x14 x15 (some d))]
  · simp [iD, Function.comp_def]
  · intro d hd
    obtain ⟨i, hi, rfl⟩ := iD_mem.mp hd
    refine ⟨rfl, ?_⟩
    by_cases ho : i % 2 = 1
    · rw [ev_xIf_f (st1 := S) (by simp [cE6, ev_modI, ev_eqI, ho])]
      simp [cE6, fwd, ho]
    · obtain ⟨a, rfl, ha⟩ : ∃ a : Nat, i = 2 * (a : Int) ∧ A a := by
        rcases hw i hi with z | z
        · contradiction
        · exact z
      have hin : a ∈ ord := by
        rcases hv _ hi with z | z
        · contradiction
        · rwa [wA2] at z
      have g := ev_dget h0 (pV_get (hs := hs) (beg := beg) hin)
      have e3 : fwd hs beg ord (2 * (a : Int)) = 2 * ((beg + off hs ord a : Nat) : Int) := by unfold fwd; rw [if_neg ho, wA2]
      rw [ev_xIf_t (st1 := S) (by simp [cE6, ev_modI, ev_eqI])]
      simp only [e3]
      generalize ((beg + off hs ord a : Nat) : Int) = T at *
      simp [cE6, ev_divI, half, g, ev_mulI]
  · rw [List.length_nil, iD_length, Nat.zero_add]
    exact fitz (by omega)
theorem newH_put {found rw' : List Int} (h : beg + found.length + rw'.length ≤ 2 * room) : (newH room beg found).take (beg + found.length) ++ rw' ++ (newH room beg found).drop (beg + found.length + rw'.length) = newH room beg (found ++ rw') := by
  unfold newH
  have e1 : (List.replicate beg (0 : Int) ++ found ++ List.replicate (2 * room - beg - found.length) 0).take (beg + found.length) = List.replicate beg 0 ++ found := by
    rw [List.take_left' (by simp)]
  have e2 : (List.replicate beg (0 : Int) ++ found ++ List.replicate (2 * room - beg - found.length) 0).drop (beg + found.length + rw'.length) = List.replicate (2 * room - beg - (found ++ rw').length) 0 := by
    rw [← List.drop_drop, List.drop_left' (by simp), List.drop_replicate]
    congr 1
    rw [List.length_append]
    omega
  rw [e1, e2]
  simp
theorem setSl_ref {S : Store} {k : Nat} {X Y : List Int} {a c : Nat} (h : S[k]? = some (.lst (iD X))) (h1 : a ≤ c) (h2 : c ≤ X.length) (h3 : X.length + Y.length ≤ 1000000) : setSl (.ref k) (a : Int) (c : Int) (.lst (iD Y)) S = some (S.set k (.lst (iD (X.take a ++ Y ++ X.drop c)))) := by
  unfold setSl
  rw [mutL_ref h]
  simp only [lstOf]
  rw [if_pos ⟨rfl, by omega, by omega, by rw [iD_length]; omega, by rw [iD_length, iD_length]; exact fitz h3⟩]
  simp [spliceD, iD, List.map_take, List.map_drop]
theorem crow (G : Good hs A room) (hr : room ≤ 2900) (hb : beg + room ≤ 2 * room) {r0 h : Nat} {ws : List Int} {free x8 x9 : Option D} {ord l1 l2 : List Nat} {a : Nat} (ho : ord = l1 ++ a :: l2) (hnd : ord.Nodup) (hA : ∀ a ∈ ord, A a) (hH : ∀ a ∈ ord, ∀ w ∈ fls hs a, Has ord w) (x12 x13 x14 x15 : Option D) :
    ∃ y12 y13 y14 y15, b_law_collected_7b (cE6 hs r0 h ws beg st.length free x8 x9 (some (.ref (st.length + 2))) (some (.int (a : Int))) x12 x13 x14 x15 none) (st ++ qS hs beg ord (newH room beg (rows hs beg ord l1)))
      = some (.nx (cE6 hs r0 h ws beg st.length free x8 x9 (some (.ref (st.length + 2))) (some (.int (a : Int))) y12 y13 y14 y15 none), st ++ qS hs beg ord (newH room beg (rows hs beg ord (l1 ++ [a])))) := by
  have ma : a ∈ ord := by rw [ho]; simp
  obtain ⟨w, hw⟩ := G.at_ a (hA a ma)
  have h0 : (st ++ qS hs beg ord (newH room beg (rows hs beg ord l1)))[st.length]? = some (.dct (nD ord) (pV hs beg ord)) := at0
  have h2 : (st ++ qS hs beg ord (newH room beg (rows hs beg ord l1)))[st.length + 2]? = some (.lst (iD (newH room beg (rows hs beg ord l1)))) := at2
  have few := G.fit ord hnd hA
  have tt : tot hs ord = tot hs l1 + siz hs a + tot hs l2 := by rw [ho]; simp [tot]; omega
  have tle : tot hs ord ≤ room := few
  have rl := rows_len (beg := beg) (ord := ord) (l := l1) fun b hb => G.at_ b (hA b (by rw [ho]; exact List.mem_append_left _ hb))
  have na : a ∉ l1 := by
    rw [ho, List.nodup_append] at hnd
    exact fun z => hnd.2.2 a z a (by simp) rfl
  have oa : off hs ord a = tot hs l1 := by rw [ho, off_new na]
  have g := ev_dget h0 (pV_get (hs := hs) (beg := beg) ma)
  rw [oa] at g
  have rowl : (row hs beg ord a).length = siz hs a := by simp [row, hw.len, siz]; omega
  have put := setSl_ref (Y := row hs beg ord a) (a := beg + tot hs l1) (c := beg + tot hs l1 + siz hs a) h2 (by omega) (by rw [newH_len (by omega)]; omega) (by rw [newH_len (by omega), rowl]; omega)
  rw [show (newH room beg (rows hs beg ord l1)).take (beg + tot hs l1) ++ row hs beg ord a ++ (newH room beg (rows hs beg ord l1)).drop (beg + tot hs l1 + siz hs a) = newH room beg (rows hs beg ord l1 ++ row hs beg ord a) by rw [← newH_put (by rw [rl, rowl]; omega), rl, rowl]] at put
  rw [show rows hs beg ord l1 ++ row hs beg ord a = rows hs beg ord (l1 ++ [a]) by simp [rows]] at put
  rw [show (st ++ qS hs beg ord (newH room beg (rows hs beg ord l1))).set (st.length + 2) (.lst (iD (newH room beg (rows hs beg ord (l1 ++ [a]))))) = st ++ qS hs beg ord (newH room beg (rows hs beg ord (l1 ++ [a]))) from set2] at put
  have lr := g_law_read hw (st ++ qS hs beg ord (newH room beg (rows hs beg ord l1)))
  have lc := cfwd (A := A) (hs := hs) (beg := beg) (st := st) (S := st ++ qS hs beg ord (newH room beg (rows hs beg ord l1))) (r0 := r0) (h := h) (ws := ws) (free := free) (x8 := x8) (x9 := x9) (x10 := some (.ref (st.length + 2))) (x11 := some (.int (a : Int))) (x12 := some (.int (w % 10 / 2))) (x13 := some (.int (w / 10 / 256))) (x14 := some (.tup (iD (fls hs a)))) (x15 := x15) h0 (hH a ma) (G.fl a (hA a ma)) (by have := fls_le (hs := hs) (a := a); omega)
  refine ⟨some (.int (w % 10 / 2)), some (.int (w / 10 / 256)), some (.tup (iD (fls hs a))), some (.lst (iD (row hs beg ord a))), ?_⟩
  unfold b_law_collected_7b
  generalize st ++ qS hs beg ord (newH room beg (rows hs beg ord l1)) = S1 at *
  generalize st ++ qS hs beg ord (newH room beg (rows hs beg ord (l1 ++ [a]))) = S2 at *
  rw [ev_sSeq (e1 := cE6 hs r0 h ws beg st.length free x8 x9 (some (.ref (st.length + 2))) (some (.int (a : Int))) (some (.int (w % 10 / 2))) (some (.int (w / 10 / 256))) (some (.tup (iD (fls hs a)))) x15 none) (st1 := S1) (by simp [m_law_collected_7b1, cE6, lr, gT, gsC])]
  rw [ev_sSeq (e1 := cE6 hs r0 h ws beg st.length free x8 x9 (some (.ref (st.length + 2))) (some (.int (a : Int))) (some (.int (w % 10 / 2))) (some (.int (w / 10 / 256))) (some (.tup (iD (fls hs a)))) (some (.lst (iD (row hs beg ord a)))) none) (st1 := S1) (by
    unfold m_law_collected_7b2
    rw [ev_sAsg, ev_x2]
    have l1' : xVal (xLst (aC (x2 oIx (xV 0) (xV 11)) aN)) (cE6 hs r0 h ws beg st.length free x8 x9 (some (.ref (st.length + 2))) (some (.int (a : Int))) (some (.int (w % 10 / 2))) (some (.int (w / 10 / 256))) (some (.tup (iD (fls hs a)))) x15 none) S1 = some (.ok (.lst (iD [w])), S1) := by
      simp [cE6, ev_ixT (i := a) rfl (iD_get hw.1), sizeLine_eq]
    rw [l1', ev_bnd_ok, ev_xVal, ev_xLc]
    have it : iSeq (xV 14) (cE6 hs r0 h ws beg st.length free x8 x9 (some (.ref (st.length + 2))) (some (.int (a : Int))) (some (.int (w % 10 / 2))) (some (.int (w / 10 / 256))) (some (.tup (iD (fls hs a)))) x15 none) S1 = some (.ok ⟨iD (fls hs a), []⟩, S1) := by simp [cE6, itV]
    rw [it, ev_bnd_ok, show wipeE (cE6 hs r0 h ws beg st.length free x8 x9 (some (.ref (st.length + 2))) (some (.int (a : Int))) (some (.int (w % 10 / 2))) (some (.int (w / 10 / 256))) (some (.tup (iD (fls hs a)))) x15 none) [16] = cE6 hs r0 h ws beg st.length free x8 x9 (some (.ref (st.length + 2))) (some (.int (a : Int))) (some (.int (w % 10 / 2))) (some (.int (w / 10 / 256))) (some (.tup (iD (fls hs a)))) x15 none from rfl, lc, ev_bnd_ok]
    simp only [ev_bnd_ok]
    have cat : oAdd (.lst (iD [w])) (.lst (iD ((fls hs a).map (fwd hs beg ord)))) S1 = some (.lst (iD (row hs beg ord a)), S1) := by
      have fl := fls_le (hs := hs) (a := a)
      have e : row hs beg ord a = [w] ++ (fls hs a).map (fwd hs beg ord) := by simp [row, hw.hdr]
      rw [e, iD_append]
      have hle : (iD [w]).length + (iD ((fls hs a).map (fwd hs beg ord))).length ≤ sizeLine := by
        rw [iD_length, iD_length, List.length_map]
        exact fitz (by simp; omega)
      unfold oAdd
      simp only [lstOf]
      exact if_pos hle
    rw [cat]
    rfl)]
  have fl : fLen [.lst (iD (row hs beg ord a))] S1 = some (.int (siz hs a : Nat), S1) := by rw [fLen_seq (show seqOf (.lst (iD (row hs beg ord a))) S1 = some (iD (row hs beg ord a)) from rfl), iD_length, rowl]
  have ec : ((beg + tot hs l1 : Nat) : Int) + (siz hs a : Nat) = ((beg + tot hs l1 + siz hs a : Nat) : Int) := by omega
  unfold m_law_collected_7b3
  generalize ((beg + tot hs l1 : Nat) : Int) = T1 at *
  generalize ((beg + tot hs l1 + siz hs a : Nat) : Int) = T2 at *
  generalize iD (row hs beg ord a) = RD' at *
  rw [ev_sAsg]
  rw [show xV 15 (cE6 hs r0 h ws beg st.length free x8 x9 (some (.ref (st.length + 2))) (some (.int (a : Int))) (some (.int (w % 10 / 2))) (some (.int (w / 10 / 256))) (some (.tup (iD (fls hs a)))) (some (.lst RD')) none) S1 = some (.ok (.lst RD'), S1) from rfl, ev_bndS_ok]
  rw [ev_gSl (o := .ref (st.length + 2)) (a := T1) (c := T2) (st1 := S1) (st2 := S1) (st3 := S1) rfl (by simp [cE6, g]) (by simp [cE6, g, fl, ec]), put]
  rfl
theorem crows (G : Good hs A room) (hr : room ≤ 2900) (hb : beg + room ≤ 2 * room) {r0 h : Nat} {ws : List Int} {free x8 x9 : Option D} {ord : List Nat} (hnd : ord.Nodup) (hA : ∀ a ∈ ord, A a) (hH : ∀ a ∈ ord, ∀ w ∈ fls hs a, Has ord w) : ∀ (l2 l1 : List Nat) (x11 x12 x13 x14 x15 : Option D), ord = l1 ++ l2 →
    ∃ y11 y12 y13 y14 y15, forL ⟨nD ord, [(st.length + 1, nD ord)]⟩ (gN 11) b_law_collected_7b (nD l2) (cE6 hs r0 h ws beg st.length free x8 x9 (some (.ref (st.length + 2))) x11 x12 x13 x14 x15 none) (st ++ qS hs beg ord (newH room beg (rows hs beg ord l1)))
      = some (.nx (cE6 hs r0 h ws beg st.length free x8 x9 (some (.ref (st.length + 2))) y11 y12 y13 y14 y15 none), st ++ qS hs beg ord (newH room beg (rows hs beg ord ord)))
  | [], l1, x11, x12, x13, x14, x15, ho => by
    have h1 : (st ++ qS hs beg ord (newH room beg (rows hs beg ord l1)))[st.length + 1]? = some (.lst (nD ord)) := at1
    refine ⟨x11, x12, x13, x14, x15, ?_⟩
    rw [show nD [] = [] from rfl, ev_for_nil (fun p hp => by simp at hp; subst hp; exact .inl h1)]
    rw [show l1 = ord by rw [ho]; simp]
  | a :: l2, l1, x11, x12, x13, x14, x15, ho => by
    have h1 : (st ++ qS hs beg ord (newH room beg (rows hs beg ord l1)))[st.length + 1]? = some (.lst (nD ord)) := at1
    obtain ⟨y12, y13, y14, y15, body⟩ := crow (st := st) G hr hb (r0 := r0) (h := h) (ws := ws) (free := free) (x8 := x8) (x9 := x9) ho hnd hA hH x12 x13 x14 x15
    obtain ⟨z11, z12, z13, z14, z15, ih⟩ := crows G hr hb (r0 := r0) (h := h) (ws := ws) (free := free) (x8 := x8) (x9 := x9) hnd hA hH l2 (l1 ++ [a]) (some (.int (a : Int))) y12 y13 y14 y15 (by rw [ho]; simp)
    refine ⟨z11, z12, z13, z14, z15, ?_⟩
    rw [show nD (a :: l2) = .int (a : Int) :: nD l2 from rfl]
    rw [ev_for_cons (fun p hp => by simp at hp; subst hp; exact .inl h1) (e1 := cE6 hs r0 h ws beg st.length free x8 x9 (some (.ref (st.length + 2))) (some (.int (a : Int))) x12 x13 x14 x15 none) (st1 := st ++ qS hs beg ord (newH room beg (rows hs beg ord l1))) rfl body]
    exact ih
theorem g_law_collected {h : Nat} (hh : h ≤ 1) {ws : List Int} {ord : List Nat} (G : Good hs A room) (hr : room ≤ 2900) (hw : ∀ w ∈ ws, Wd A w) (hl : ws.length ≤ 1000) (wf : Wf st) (s : Scan hs 0 (places [] ws) ord) :
    G_law_collected [.tup (iD hs), .int room, .int h, .lst (iD ws)] st = some (.tup [.lst (iD (newH room (room * (1 - h)) (rows hs (room * (1 - h)) ord ord))), .int ((room * (1 - h) + tot hs ord : Nat) : Int), .lst (iD (ws.map (fwd hs (room * (1 - h)) ord)))], st) := by
  have nd0 : (places [] ws).Nodup := places_nd (by simp)
  have A0 : ∀ a ∈ places [] ws, A a := places_A (by simp) hw
  have nd := s.nd nd0
  have hA := s.inA G A0
  have cl := s.cl (fun i a hi => by omega)
  have hb : room * (1 - h) + room ≤ 2 * room := by
    rcases Nat.le_one_iff_eq_zero_or_eq_one.mp hh with e | e <;> subst e <;> simp <;> omega
  have z1 : oMul (.int (1 - (h : Int))) (.int (room : Int)) st = some (.int ((room * (1 - h) : Nat) : Int), st) := by
    rw [ev_mulI (by omega), show (1 - (h : Int)) * (room : Int) = ((room * (1 - h) : Nat) : Int) by rcases Nat.le_one_iff_eq_zero_or_eq_one.mp hh with e | e <;> subst e <;> simp]
  have bb : room * (1 - h) ≤ room := by omega
  obtain ⟨m2, hm2⟩ := s.app
  have hro : ∀ w ∈ ws, Has ord w := fun w hw' => by rw [hm2]; exact (places_has w hw').app
  generalize room * (1 - h) = beg at *
  obtain ⟨x8', p1⟩ := cplaces (st := st) (beg := beg) G hr (r0 := room) (h := h) (ws := ws) (x9 := none) (x10 := none) (x11 := none) (x12 := none) (x13 := none) (x14 := none) (x15 := none) (ds0 := iD ws) ws [] none (by simp) (by simp) hw
  obtain ⟨y8, y9, wh⟩ := cwhile (st := st) (beg := beg) G hr (r0 := room) (h := h) (ws := ws) (x10 := none) (x11 := none) (x12 := none) (x13 := none) (x14 := none) (x15 := none) s x8' (by omega) nd0 A0
  obtain ⟨z11, z12, z13, z14, z15, rw7⟩ := crows (st := st) (beg := beg) G hr hb (r0 := room) (h := h) (ws := ws) (free := fr hs beg ord) (x8 := y8) (x9 := y9) nd hA cl ord [] none none none none none rfl
  have h1q : ∀ X, (st ++ qS hs beg ord X)[st.length + 1]? = some (.lst (nD ord)) := fun X => at1
  have h0q : ∀ X, (st ++ qS hs beg ord X)[st.length]? = some (.dct (nD ord) (pV hs beg ord)) := fun X => at0
  have lc := fun X => cfwd (A := A) (hs := hs) (beg := beg) (st := st) (S := st ++ qS hs beg ord X) (r0 := room) (h := h) (ws := ws) (free := fr hs beg ord) (x8 := y8) (x9 := y9) (x10 := some (.ref (st.length + 2))) (x11 := z11) (x12 := z12) (x13 := z13) (x14 := z14) (x15 := z15) (h0q X) hro hw (by omega)
  have F : F_law_collected [.tup (iD hs), .int room, .int h, .lst (iD ws)] st = some (.tup [.ref (st.length + 2), .int ((beg + tot hs ord : Nat) : Int), .lst (iD (ws.map (fwd hs beg ord)))], st ++ qS hs beg ord (newH room beg (rows hs beg ord ord))) := by
    refine runF_rt ?_
    unfold m_law_collected
    rw [show env0 17 [.tup (iD hs), .int room, .int h, .lst (iD ws)] = [some (.tup (iD hs)), some (.int room), some (.int h), some (.lst (iD ws)), none, none, none, none, none, none, none, none, none, none, none, none, none] from rfl]
    rw [ev_sSeq (e1 := [some (.tup (iD hs)), some (.int room), some (.int h), some (.lst (iD ws)), some (.int beg), none, none, none, none, none, none, none, none, none, none, none, none]) (st1 := st) (by simp [m_law_collected_1, z1])]
    rw [ev_sSeq (e1 := cE hs room h ws beg st.length (fr hs beg []) none none none none none none none none) (st1 := st ++ pS hs beg []) (by simp [m_law_collected_2, gT, gsC, cE, pS, nD, pV, sizeLine_eq, fr, tot])]
    rw [ev_sSeq (e1 := cE hs room h ws beg st.length (fr hs beg (places [] ws)) x8' none none none none none none none) (st1 := st ++ pS hs beg (places [] ws)) (by
      refine Eq.trans ?_ p1
      unfold m_law_collected_3
      have it : iSeq (xV 3) (cE hs room h ws beg st.length (fr hs beg []) none none none none none none none none) (st ++ pS hs beg []) = some (.ok ⟨iD ws, []⟩, st ++ pS hs beg []) := by simp [cE, itV]
      rw [ev_sFor, it, ev_bndS_ok]
      rfl)]
    rw [ev_sSeq (e1 := cE hs room h ws beg st.length (fr hs beg (places [] ws)) x8' (some (.int (0 : Nat))) none none none none none none) (st1 := st ++ pS hs beg (places [] ws)) (by simp [m_law_collected_4, cE])]
    rw [ev_sSeq (show m_law_collected_5 _ _ = _ from ev_while wh)]
    have z2 : ∀ S : Store, oMul (.int 2) (.int (room : Int)) S = some (.int ((2 * room : Nat) : Int), S) := fun S => by rw [ev_mulI (by omega)]; simp
    have rp := fun S : Store => ev_pRep (k := ((2 * room : Nat) : Int)) (n := 2 * room) (st := S) rfl (by omega)
    have nH : newH room beg (rows hs beg ord []) = List.replicate (2 * room) 0 := by
      unfold newH
      simp only [rows, List.map_nil, List.flatten_nil, List.append_nil, List.length_nil, List.replicate_append_replicate]
      congr 1
      omega
    rw [nH] at rw7
    generalize ((2 * room : Nat) : Int) = R2 at *
    rw [ev_sSeq (e1 := cE6 hs room h ws beg st.length (fr hs beg ord) y8 y9 (some (.ref (st.length + 2))) none none none none none none) (st1 := st ++ qS hs beg ord (List.replicate (2 * room) 0)) (by simp [m_law_collected_6, cE, cE6, z2, rp, sizeLine_eq, pS, qS])]
    rw [ev_sSeq (e1 := cE6 hs room h ws beg st.length (fr hs beg ord) y8 y9 (some (.ref (st.length + 2))) z11 z12 z13 z14 z15 none) (st1 := st ++ qS hs beg ord (newH room beg (rows hs beg ord ord))) (by
      refine Eq.trans ?_ rw7
      unfold m_law_collected_7
      have it : iSeq (xV 6) (cE6 hs room h ws beg st.length (fr hs beg ord) y8 y9 (some (.ref (st.length + 2))) none none none none none none) (st ++ qS hs beg ord (List.replicate (2 * room) 0)) = some (.ok ⟨nD ord, [(st.length + 1, nD ord)]⟩, st ++ qS hs beg ord (List.replicate (2 * room) 0)) := by
        have h1 := h1q (List.replicate (2 * room) 0)
        generalize st ++ qS hs beg ord (List.replicate (2 * room) 0) = S1 at *
        simp [cE6, itV, h1]
      rw [ev_sFor, it, ev_bndS_ok])]
    have l8 := lc (newH room beg (rows hs beg ord ord))
    generalize st ++ qS hs beg ord (newH room beg (rows hs beg ord ord)) = S1 at *
    unfold m_law_collected_8
    have it : iSeq (xV 3) (cE6 hs room h ws beg st.length (fr hs beg ord) y8 y9 (some (.ref (st.length + 2))) z11 z12 z13 z14 z15 none) S1 = some (.ok ⟨iD ws, []⟩, S1) := by simp [cE6, itV]
    have lv : xVal (xLc [16] (iSeq (xV 3)) (gN 16) xYes (xIf (xTst (x2 oEqA (x2 oMod (xN fInt (aC (xV 16) aN)) (xC (.int 2))) (xC (.int 0)))) (x2 oMul (xC (.int 2)) (x2 oDGet (xV 5) (x2 oFdiv (xN fInt (aC (xV 16) aN)) (xC (.int 2))))) (xV 16))) (cE6 hs room h ws beg st.length (fr hs beg ord) y8 y9 (some (.ref (st.length + 2))) z11 z12 z13 z14 z15 none) S1 = some (.ok (.lst (iD (ws.map (fwd hs beg ord)))), S1) := by
      rw [ev_xVal, ev_xLc, it, ev_bnd_ok, show wipeE (cE6 hs room h ws beg st.length (fr hs beg ord) y8 y9 (some (.ref (st.length + 2))) z11 z12 z13 z14 z15 none) [16] = cE6 hs room h ws beg st.length (fr hs beg ord) y8 y9 (some (.ref (st.length + 2))) z11 z12 z13 z14 z15 none from rfl, l8, ev_bnd_ok]
    have v10 : xV 10 (cE6 hs room h ws beg st.length (fr hs beg ord) y8 y9 (some (.ref (st.length + 2))) z11 z12 z13 z14 z15 none) S1 = some (.ok (.ref (st.length + 2)), S1) := rfl
    have v7 : xV 7 (cE6 hs room h ws beg st.length (fr hs beg ord) y8 y9 (some (.ref (st.length + 2))) z11 z12 z13 z14 z15 none) S1 = some (.ok (.int ((beg + tot hs ord : Nat) : Int)), S1) := rfl
    rw [ev_sRet, ev_xTup, ev_aC, v10, ev_bnd_ok, ev_aC, v7, ev_bnd_ok, ev_aC, lv, ev_bnd_ok, ev_aN, ev_bnd_ok]
    simp only [ev_bnd_ok]
    rw [if_pos (fitz (by simp)), ev_bndS_ok]
  refine tell_of F (Cut.same wf) (.tup (.cons (.olst (by omega) at2 (Fzs.refl lts_iD)) (.cons (.int _) (.cons (Fz.refl (by simp only [Lt]; exact lts_iD)) .nil))))
end
end K69
end FW

set_option maxHeartbeats 4000000
namespace FW
namespace K69
open PySem L2

/-! ### shapes -/
def again (M : List Nat) (a : Nat) : D := .tup [.str "again", .int (M.idxOf a : Nat)]
def kind (hs : List Int) (a : Nat) (w : Int) : D := .tup [.int (w % 10 / 2), .int (w / 10 / 256), .int ((fls hs a).length : Nat)]
inductive Shp (hs : List Int) : List Nat → List D → List Int → List D → Prop
  | done {M fd} : Shp hs M fd [] fd
  | odd {M fd l r w} : w % 2 = 1 → Shp hs M (fd ++ [.int w]) l r → Shp hs M fd (w :: l) r
  | old {M fd l r} {a : Nat} : a ∈ M → Shp hs M (fd ++ [again M a]) l r → Shp hs M fd (2 * (a : Int) :: l) r
  | new {M fd l r} {a : Nat} {w : Int} : a ∉ M → At hs a w → Shp hs (M ++ [a]) (fd ++ [kind hs a w]) (l ++ fls hs a) r → Shp hs M fd (2 * (a : Int) :: l) r
theorem Shp.ex {hs : List Int} {A : Nat → Prop} {room : Nat} (G : Good hs A room) : ∀ (n : Nat) (M : List Nat) (fd : List D) (l : List Int), (room + 1 - M.length) * 300 + l.length ≤ n → M.Nodup → (∀ a ∈ M, A a) → (∀ w ∈ l, Wd A w) → ∃ r, Shp hs M fd l r
  | n, M, fd, [], _, _, _, _ => ⟨fd, .done⟩
  | n, M, fd, w :: l, hn, hF, hA, hl => by
    have few := G.few hF hA
    have hm : ∀ v ∈ l, Wd A v := fun v hv => hl v (List.mem_cons_of_mem _ hv)
    simp only [List.length_cons] at hn
    cases n with
    | zero => omega
    | succ n =>
      rcases hl w (by simp) with h1 | ⟨a, rfl, hb⟩
      · obtain ⟨r, d⟩ := Shp.ex G n M (fd ++ [.int w]) l (by omega) hF hA hm
        exact ⟨r, .odd h1 d⟩
      · by_cases ha : a ∈ M
        · obtain ⟨r, d⟩ := Shp.ex G n M (fd ++ [again M a]) l (by omega) hF hA hm
          exact ⟨r, .old ha d⟩
        · obtain ⟨v, hv⟩ := G.at_ a hb
          have hA2 : ∀ x ∈ M ++ [a], A x := fun x hx => by
            rcases List.mem_append.mp hx with h | h
            · exact hA x h
            · simp at h; subst h; exact hb
          have few2 := G.few (nodup_snoc hF ha) hA2
          simp only [List.length_append, List.length_singleton] at few2
          obtain ⟨r, d⟩ := Shp.ex G n (M ++ [a]) (fd ++ [kind hs a v]) (l ++ fls hs a) (by
            have := fls_le (hs := hs) (a := a)
            simp only [List.length_append, List.length_singleton]
            omega) (nodup_snoc hF ha) hA2 (fun u hu => by
            rcases List.mem_append.mp hu with h | h
            · exact hm u h
            · exact G.fl a hb u h)
          exact ⟨r, .new ha hv d⟩
/-- the same heap elsewhere -/
structure Iso (hs hs' : List Int) (ord : List Nat) (f : Nat → Nat) : Prop where
  inj : ∀ a ∈ ord, ∀ b ∈ ord, f a = f b → a = b
  at_ : ∀ a ∈ ord, ∀ w, At hs a w → At hs' (f a) w
  fl : ∀ a ∈ ord, fls hs' (f a) = (fls hs a).map fun w => if w % 2 = 1 then w else 2 * ((f (wA w) : Nat) : Int)
  cl : ∀ a ∈ ord, ∀ w ∈ fls hs a, Wd (· ∈ ord) w
def fw (f : Nat → Nat) (w : Int) : Int := if w % 2 = 1 then w else 2 * ((f (wA w) : Nat) : Int)
theorem fw_odd {f : Nat → Nat} {w : Int} (h : w % 2 = 1) : fw f w = w := if_pos h
theorem fw_even {f : Nat → Nat} {a : Nat} : fw f (2 * (a : Int)) = 2 * ((f a : Nat) : Int) := by unfold fw; rw [if_neg (by omega), wA2]
theorem idx_map {f : Nat → Nat} {a : Nat} : ∀ {M : List Nat}, (∀ b ∈ M, f b = f a → b = a) → (M.map f).idxOf (f a) = M.idxOf a
  | [], _ => rfl
  | b :: M, h => by
    rw [List.map_cons, List.idxOf_cons, List.idxOf_cons]
    by_cases e : b = a
    · subst e; simp only [beq_self_eq_true]; rfl
    · have e2 : ¬ f b = f a := fun z => e (h b (by simp) z)
      have i := idx_map (f := f) (a := a) (M := M) fun c hc => h c (List.mem_cons_of_mem _ hc)
      rw [beq_false_of_ne e, beq_false_of_ne e2, i]
theorem Shp.iso {hs hs' : List Int} {ord : List Nat} {f : Nat → Nat} (I : Iso hs hs' ord f) {M : List Nat} {fd r : List D} {l : List Int} (s : Shp hs M fd l r) : (∀ a ∈ M, a ∈ ord) → (∀ w ∈ l, Wd (· ∈ ord) w) → Shp hs' (M.map f) fd (l.map (fw f)) r := by
  induction s with
  | done => exact fun _ _ => .done
  | @odd M fd l r w h _ ih =>
    intro hM hl
    rw [List.map_cons, fw_odd h]
    exact .odd h (ih hM fun v hv => hl v (List.mem_cons_of_mem _ hv))
  | @old M fd l r a h _ ih =>
    intro hM hl
    rw [List.map_cons, fw_even]
    refine .old (List.mem_map.mpr ⟨a, h, rfl⟩) ?_
    have e : again (M.map f) (f a) = again M a := by
      unfold again
      rw [idx_map fun b hb z => I.inj b (hM b hb) a (hM a h) z]
    rw [e]
    exact ih hM fun v hv => hl v (List.mem_cons_of_mem _ hv)
  | @new M fd l r a w h hw _ ih =>
    intro hM hl
    have ha : a ∈ ord := by
      rcases hl (2 * (a : Int)) (by simp) with z | ⟨b, z, hb⟩
      · omega
      · rwa [show a = b by omega]
    rw [List.map_cons, fw_even]
    refine .new (w := w) (fun z => ?_) (I.at_ a ha w hw) ?_
    · obtain ⟨b, hb, e⟩ := List.mem_map.mp z
      exact h ((I.inj b (hM b hb) a ha e) ▸ hb)
    · have e : kind hs' (f a) w = kind hs a w := by unfold kind; rw [I.fl a ha, List.length_map]
      rw [e]
      have := ih (fun x hx => by
        rcases List.mem_append.mp hx with z | z
        · exact hM x z
        · simp at z; subst z; exact ha) (fun v hv => by
        rcases List.mem_append.mp hv with z | z
        · exact hl v (List.mem_cons_of_mem _ z)
        · exact I.cl a ha v z)
      rw [List.map_append, List.map_append] at this
      rw [I.fl a ha]
      exact this
/-- what stands in a shape -/
def Ent (d : D) : Prop := (∃ i, d = .int i) ∨ (∃ i, d = .tup [.str "again", .int i]) ∨ ∃ i j k, d = .tup [.int i, .int j, .int k]
theorem Shp.ent {hs : List Int} {M : List Nat} {fd r : List D} {l : List Int} (s : Shp hs M fd l r) : (∀ d ∈ fd, Ent d) → ∀ d ∈ r, Ent d := by
  induction s with
  | done => exact id
  | odd h _ ih =>
    exact fun H => ih fun d hd => by
      rcases List.mem_append.mp hd with z | z
      · exact H d z
      · simp at z; exact .inl ⟨_, z⟩
  | old h _ ih =>
    exact fun H => ih fun d hd => by
      rcases List.mem_append.mp hd with z | z
      · exact H d z
      · simp at z; exact .inr (.inl ⟨_, z⟩)
  | new h _ _ ih =>
    exact fun H => ih fun d hd => by
      rcases List.mem_append.mp hd with z | z
      · exact H d z
      · simp at z; exact .inr (.inr ⟨_, _, _, z⟩)
theorem ent_pd {st : Store} {d : D} (h : Ent d) : ∃ p, PD st d p ∧ PyData.canLay0 p = true ∧ PyData.depth p ≤ 1 := by
  rcases h with ⟨i, rfl⟩ | ⟨i, rfl⟩ | ⟨i, j, k, rfl⟩
  · exact ⟨_, .int i, by simp [PyData.canLay0], by simp [PyData.depth]⟩
  · exact ⟨_, .tup (.cons (.str _) (.cons (.int i) .nil)), by simp only [PyData.canLay0, PyData.canLayAll0, Bool.and_true]; decide +kernel, by simp [PyData.depth, PyData.depthAll]⟩
  · exact ⟨_, .tup (.cons (.int i) (.cons (.int j) (.cons (.int k) .nil))), by simp [PyData.canLay0, PyData.canLayAll0], by simp [PyData.depth, PyData.depthAll]⟩
theorem ents_pd {st : Store} : ∀ {r : List D}, (∀ d ∈ r, Ent d) → ∃ ps, PDs st r ps ∧ PyData.canLayAll0 ps = true ∧ PyData.depthAll ps ≤ 1
  | [], _ => ⟨[], .nil, by simp [PyData.canLayAll0], by simp [PyData.depthAll]⟩
  | d :: r, h => by
    obtain ⟨p, h1, h2, h3⟩ := ent_pd (st := st) (h d (by simp))
    obtain ⟨ps, h4, h5, h6⟩ := ents_pd (st := st) (r := r) fun x hx => h x (List.mem_cons_of_mem _ hx)
    exact ⟨p :: ps, .cons h1 h4, by simp only [PyData.canLayAll0, h2, h5, Bool.and_self], by simp only [PyData.depthAll]; omega⟩
theorem ne_same {st : Store} {r : List D} (h : ∀ d ∈ r, Ent d) : oNe (.lst r) (.lst r) st = some (.bl false, st) := by
  obtain ⟨ps, h1, h2, h3⟩ := ents_pd (st := st) h
  have c : PyData.canLay0 (.list ps) = true := by simp [PyData.canLay0, h2]
  have sh : SeqAt.shaped (.list ps) = true := by
    have dd : PyData.depth (.list ps) ≤ 64 := by simp only [PyData.depth]; omega
    unfold SeqAt.shaped
    rw [c, Bool.true_and]
    exact decide_eq_true dd
  show oData (fun p q => !PyData.eqv p q) _ _ _ = _
  rw [oData_of (.lst h1) (.lst h1) sh sh, SeqAt.eqv_refl _ c]
  rfl
end K69
end FW

set_option maxHeartbeats 4000000
namespace FW
namespace K69
open PySem L2

def iV (s n : Nat) : List D := (List.range' s n).map fun (i : Nat) => D.int (i : Int)
theorem iV_get {a : Nat} : ∀ {M : List Nat} {s : Nat}, a ∈ M → dGet (mK M) (iV s M.length) (.int (2 * (a : Int))) = some (.int ((s + M.idxOf a : Nat) : Int))
  | b :: M, s, h => by
    rw [show iV s (b :: M).length = D.int (s : Int) :: iV (s + 1) M.length by simp [iV, List.range'_succ], show mK (b :: M) = D.int (2 * (b : Int)) :: mK M from rfl]
    simp only [dGet]
    by_cases e : b = a
    · subst e
      rw [if_pos rfl]
      simp
    · rw [if_neg (by intro z; injection z with z; omega), iV_get (by
        rcases List.mem_cons.mp h with z | z
        · exact absurd z.symm e
        · exact z), List.idxOf_cons, beq_false_of_ne e]
      simp only [cond_false]
      congr 3
      omega
theorem iV_new {n : Nat} : iV 0 (n + 1) = iV 0 n ++ [.int (n : Int)] := by simp [iV, List.range'_concat]
theorem pop0_ref {st : Store} {k : Nat} {l : List Int} {w : Int} (h : st[k]? = some (.lst (iD (w :: l)))) : mPop (.ref k) [.int 0] st = some (.int w, st.set k (.lst (iD l))) := by
  unfold mPop
  rw [mutL_ref h]
  have e : ixN (iD (w :: l)).length 0 = some 0 := by
    unfold ixN
    rw [if_pos (by omega), if_pos (by rw [iD_length]; simp)]
    rfl
  simp only [e]
  rw [if_pos ⟨by omega, by omega⟩]
  simp
section
variable {hs : List Int} {R : D} {A : Nat → Prop} {room : Nat} {st : Store}
def sS (M : List Nat) (fd : List D) (l : List Int) : Store := [.dct (mK M) (iV 0 M.length), .lst fd, .lst (iD l)]
def sE (hs : List Int) (R : D) (n : Nat) (x5 x6 x7 x8 : Option D) : Env := [some (.tup (iD hs)), some R, some (.ref n), some (.ref (n + 1)), some (.ref (n + 2)), x5, x6, x7, x8]
theorem scond {M : List Nat} {fd : List D} {l : List Int} {x5 x6 x7 x8 : Option D} : t_law_shape_2 (sE hs R st.length x5 x6 x7 x8) (st ++ sS M fd l) = some (.ok (!l.isEmpty), st ++ sS M fd l) := by
  have h : (st ++ sS M fd l)[st.length + 2]? = some (.lst (iD l)) := at2
  have e := ev_neE (pd_ref h)
  generalize st ++ sS M fd l = S at *
  simp [t_law_shape_2, sE, e, sizeLine_eq]
theorem spop {M : List Nat} {fd : List D} {l : List Int} {w : Int} {x5 x6 x7 x8 : Option D} : m_law_shape_2b1 (sE hs R st.length x5 x6 x7 x8) (st ++ sS M fd (w :: l)) = some (.nx (sE hs R st.length (some (.int w)) x6 x7 x8), st ++ sS M fd l) := by
  have h : (st ++ sS M fd (w :: l))[st.length + 2]? = some (.lst (iD (w :: l))) := at2
  have p := pop0_ref h
  rw [show (st ++ sS M fd (w :: l)).set (st.length + 2) (.lst (iD l)) = st ++ sS M fd l from set2] at p
  have ty := tyL_ref h
  generalize st ++ sS M fd (w :: l) = S at *
  generalize st ++ sS M fd l = S2 at *
  simp [m_law_shape_2b1, sE, ty, p]
theorem sapp {M : List Nat} {fd : List D} {l : List Int} {d : D} (hf : fd.length < 1000000) : tyD .lst (.ref (st.length + 1)) (st ++ sS M fd l) = true ∧ mAppend (.ref (st.length + 1)) [d] (st ++ sS M fd l) = some (.non, st ++ sS M (fd ++ [d]) l) := by
  have h : (st ++ sS M fd l)[st.length + 1]? = some (.lst fd) := at1
  refine ⟨tyL_ref h, ?_⟩
  rw [app_ref h (Nat.lt_of_lt_of_le hf sizeLine_big)]
  exact congrArg (fun s => some (D.non, s)) set1
theorem sloop {M : List Nat} {fd r : List D} {l : List Int} (s : Shp hs M fd l r) : ∀ (x5 x6 x7 x8 : Option D), Good hs A room → room ≤ 2900 → M.Nodup → (∀ a ∈ M, A a) → (∀ w ∈ l, Wd A w) → fd.length + l.length + (room - M.length) * 300 ≤ 900000 →
    ∃ M' y5 y6 y7 y8, WhR t_law_shape_2 b_law_shape_2b (sE hs R st.length x5 x6 x7 x8) (st ++ sS M fd l) (.nx (sE hs R st.length y5 y6 y7 y8), st ++ sS M' r []) := by
  induction s with
  | @done M fd => exact fun x5 x6 x7 x8 _ _ _ _ _ _ => ⟨M, x5, x6, x7, x8, .stop (by rw [scond]; rfl)⟩
  | @odd M fd l r w h _ ih =>
    intro x5 x6 x7 x8 G hr hnd hA hw hm
    simp only [List.length_cons] at hm
    obtain ⟨M', y5, y6, y7, y8, k⟩ := ih (some (.int w)) x6 x7 x8 G hr hnd hA (fun v hv => hw v (List.mem_cons_of_mem _ hv)) (by simp only [List.length_append, List.length_singleton]; omega)
    refine ⟨M', y5, y6, y7, y8, .next (st1 := st ++ sS M fd (w :: l)) (by rw [scond]; rfl) ?_ k⟩
    unfold b_law_shape_2b
    rw [ev_sSeq spop]
    obtain ⟨a1, a2⟩ := sapp (st := st) (M := M) (l := l) (d := .int w) (show fd.length < 1000000 by omega)
    unfold m_law_shape_2b2
    generalize st ++ sS M fd l = S1 at *
    rw [ev_if_t (st1 := S1) (by simp [t_law_shape_2b2, sE, ev_modI, ev_eqI, h])]
    simp [b_law_shape_2b2t, m_law_shape_2b2t1, sE, a1, a2]
  | @old M fd l r a h _ ih =>
    intro x5 x6 x7 x8 G hr hnd hA hw hm
    simp only [List.length_cons] at hm
    obtain ⟨M', y5, y6, y7, y8, k⟩ := ih (some (.int (2 * (a : Int)))) x6 x7 x8 G hr hnd hA (fun v hv => hw v (List.mem_cons_of_mem _ hv)) (by simp only [List.length_append, List.length_singleton]; omega)
    refine ⟨M', y5, y6, y7, y8, .next (st1 := st ++ sS M fd (2 * (a : Int) :: l)) (by rw [scond]; rfl) ?_ k⟩
    unfold b_law_shape_2b
    rw [ev_sSeq spop]
    obtain ⟨a1, a2⟩ := sapp (st := st) (M := M) (l := l) (d := again M a) (show fd.length < 1000000 by omega)
    have h0 : (st ++ sS M fd l)[st.length]? = some (.dct (mK M) (iV 0 M.length)) := at0
    have g := iV_get (s := 0) h
    rw [Nat.zero_add] at g
    have di := ev_din (i := 2 * (a : Int)) (neg := false) h0
    rw [g] at di
    have gg := ev_dget h0 g
    unfold again at a2 ⊢
    unfold m_law_shape_2b2
    generalize st ++ sS M fd l = S1 at *
    rw [ev_if_f (st1 := S1) (by simp [t_law_shape_2b2, sE, ev_modI, ev_eqI])]
    unfold b_law_shape_2b2f m_law_shape_2b2f1
    rw [ev_if_t (st1 := S1) (by simp [t_law_shape_2b2f1, sE, di])]
    generalize ((M.idxOf a : Nat) : Int) = I at *
    simp [b_law_shape_2b2f1t, m_law_shape_2b2f1t1, sE, a1, a2, gg, sizeLine_eq]
  | @new M fd l r a w h hv _ ih =>
    intro x5 x6 x7 x8 G hr hnd hA hw hm
    simp only [List.length_cons] at hm
    have hb : A a := by
      rcases hw (2 * (a : Int)) (by simp) with z | ⟨b, z, hb⟩
      · omega
      · rwa [show a = b by omega]
    have hF2 := nodup_snoc hnd h
    have hA2 : ∀ x ∈ M ++ [a], A x := fun x hx => by
      rcases List.mem_append.mp hx with z | z
      · exact hA x z
      · simp at z; subst z; exact hb
    have few := G.few hF2 hA2
    simp only [List.length_append, List.length_singleton] at few
    have fl := fls_le (hs := hs) (a := a)
    obtain ⟨M', y5, y6, y7, y8, k⟩ := ih (some (.int (2 * (a : Int)))) (some (.int (w % 10 / 2))) (some (.int (w / 10 / 256))) (some (.tup (iD (fls hs a)))) G hr hF2 hA2 (fun v hv => by
      rcases List.mem_append.mp hv with z | z
      · exact hw v (List.mem_cons_of_mem _ z)
      · exact G.fl a hb v z) (by simp only [List.length_append, List.length_singleton]; omega)
    refine ⟨M', y5, y6, y7, y8, .next (st1 := st ++ sS M fd (2 * (a : Int) :: l)) (by rw [scond]; rfl) ?_ k⟩
    unfold b_law_shape_2b
    rw [ev_sSeq spop]
    have h0 : (st ++ sS M fd l)[st.length]? = some (.dct (mK M) (iV 0 M.length)) := at0
    have g : dGet (mK M) (iV 0 M.length) (.int (2 * (a : Int))) = none := dGet_none (fun z => h (mK_mem.mp z))
    have di := ev_din (i := 2 * (a : Int)) (neg := false) h0
    rw [g] at di
    have ml : (mK M).length = M.length := by simp [mK]
    have s0 : setIx (.ref st.length) (.int (2 * (a : Int))) (.int (M.length : Nat)) (st ++ sS M fd l) = some (st ++ sS (M ++ [a]) fd l) := by
      rw [setIx_dct h0 keyI (by rw [ml]; exact Nat.lt_of_lt_of_le (show M.length < 1000000 by omega) sizeLine_big), dPut_new (fun z => h (mK_mem.mp z))]
      simp only [sS, set0, List.length_append, List.length_singleton, iV_new]
      simp [mK]
    have lm : fLen [.ref st.length] (st ++ sS M fd l) = some (.int (M.length : Nat), st ++ sS M fd l) := by
      simp only [fLen, seqOf, rdlOf, h0, dct_ref h0, ml]
    obtain ⟨a1, a2⟩ := sapp (st := st) (M := M ++ [a]) (l := l) (d := kind hs a w) (show fd.length < 1000000 by omega)
    have h2 : (st ++ sS (M ++ [a]) (fd ++ [kind hs a w]) l)[st.length + 2]? = some (.lst (iD l)) := at2
    have ex := ext_refL (m := fls hs a) h2 (fitz (by omega))
    rw [show (st ++ sS (M ++ [a]) (fd ++ [kind hs a w]) l).set (st.length + 2) (.lst (iD (l ++ fls hs a))) = st ++ sS (M ++ [a]) (fd ++ [kind hs a w]) (l ++ fls hs a) from set2] at ex
    have ty2 := tyL_ref h2
    have lr := g_law_read hv (st ++ sS (M ++ [a]) fd l)
    unfold m_law_shape_2b2
    unfold kind at *
    generalize ((M.length : Nat) : Int) = ML at *
    generalize st ++ sS M fd l = S1 at *
    generalize st ++ sS (M ++ [a]) fd l = S2 at *
    generalize st ++ sS (M ++ [a]) (fd ++ [.tup [.int (w % 10 / 2), .int (w / 10 / 256), .int ((fls hs a).length : Nat)]]) l = S3 at *
    rw [ev_if_f (st1 := S1) (by simp [t_law_shape_2b2, sE, ev_modI, ev_eqI])]
    unfold b_law_shape_2b2f m_law_shape_2b2f1
    rw [ev_if_f (st1 := S1) (by simp [t_law_shape_2b2f1, sE, di])]
    unfold b_law_shape_2b2f1f
    rw [ev_sSeq (e1 := sE hs R st.length (some (.int (2 * (a : Int)))) x6 x7 x8) (st1 := S2) (by simp [m_law_shape_2b2f1f1, sE, lm, s0])]
    rw [ev_sSeq (e1 := sE hs R st.length (some (.int (2 * (a : Int)))) (some (.int (w % 10 / 2))) (some (.int (w / 10 / 256))) (some (.tup (iD (fls hs a))))) (st1 := S2) (by simp [m_law_shape_2b2f1f2, sE, ev_divI, half, lr, gT, gsC])]
    rw [ev_sSeq (e1 := sE hs R st.length (some (.int (2 * (a : Int)))) (some (.int (w % 10 / 2))) (some (.int (w / 10 / 256))) (some (.tup (iD (fls hs a))))) (st1 := S3) (by
      have f3 : fLen [.tup (iD (fls hs a))] S2 = some (.int ((fls hs a).length : Nat), S2) := by rw [fLen_seq (show seqOf (.tup (iD (fls hs a))) S2 = some (iD (fls hs a)) from rfl), iD_length]
      simp [m_law_shape_2b2f1f3, sE, a1, f3, a2, sizeLine_eq])]
    simp [m_law_shape_2b2f1f4, sE, ty2, oList, seqOf, ex]
theorem g_shape {ws : List Int} {r : List D} (G : Good hs A room) (hr : room ≤ 2900) (hw : ∀ w ∈ ws, Wd A w) (hl : ws.length ≤ 1000) (wf : Wf st) (s : Shp hs [] [] ws r) : G_law_shape [.tup (iD hs), .tup (iD ws)] st = some (.lst r, st) := by
  obtain ⟨M', y5, y6, y7, y8, k⟩ := sloop (R := .tup (iD ws)) (st := st) s none none none none G hr (by simp) (by simp) hw (by simp; omega)
  have F : F_law_shape [.tup (iD hs), .tup (iD ws)] st = some (.ref (st.length + 1), st ++ sS M' r []) := by
    refine runF_rt ?_
    unfold m_law_shape
    rw [show env0 9 [.tup (iD hs), .tup (iD ws)] = [some (.tup (iD hs)), some (.tup (iD ws)), none, none, none, none, none, none, none] from rfl]
    rw [ev_sSeq (e1 := sE hs (.tup (iD ws)) st.length none none none none) (st1 := st ++ sS [] [] ws) (by simp [m_law_shape_1, oList, seqOf, sE, sS, mK, iV, sizeLine_eq])]
    rw [ev_sSeq (show m_law_shape_2 _ _ = _ from ev_while k)]
    simp [m_law_shape_3, sE]
  refine tell_of F (Cut.same wf) (.olst (by omega) at1 ?_)
  have en := s.ent (by simp)
  have : ∀ (r : List D), (∀ d ∈ r, Ent d) → Lts st.length r := by
    intro r
    induction r with
    | nil => intro _; simp [Lts]
    | cons d r ih =>
      intro h
      simp only [Lts]
      refine ⟨?_, ih fun x hx => h x (List.mem_cons_of_mem _ hx)⟩
      rcases h d (by simp) with ⟨i, rfl⟩ | ⟨i, rfl⟩ | ⟨i, j, k, rfl⟩ <;> simp [Lt, Lts]
  exact Fzs.refl (this r en)
end
end K69
end FW

set_option maxHeartbeats 4000000
namespace FW
namespace K69
open PySem L2

/-! ### the heap behind a collection is the same heap elsewhere -/
theorem off_inj {hs : List Int} : ∀ {l : List Nat} {a b : Nat}, a ∈ l → b ∈ l → off hs l a = off hs l b → a = b
  | c :: l, a, b, ha, hb, h => by
    simp only [off] at h
    have p := siz_pos (hs := hs) (a := c)
    by_cases e1 : c = a
    · by_cases e2 : c = b
      · rw [← e1, ← e2]
      · rw [if_pos e1, if_neg e2] at h; omega
    · by_cases e2 : c = b
      · rw [if_neg e1, if_pos e2] at h; omega
      · rw [if_neg e1, if_neg e2] at h
        have h' : off hs l a = off hs l b := by omega
        refine off_inj (hs := hs) (l := l) ?_ ?_ h'
        · rcases List.mem_cons.mp ha with z | z
          · exact absurd z.symm e1
          · exact z
        · rcases List.mem_cons.mp hb with z | z
          · exact absurd z.symm e2
          · exact z
theorem off_le {hs : List Int} : ∀ {l : List Nat} {a : Nat}, a ∈ l → off hs l a + siz hs a ≤ tot hs l
  | c :: l, a, ha => by
    simp only [off, tot, List.map_cons, List.sum_cons]
    by_cases e : c = a
    · subst e; rw [if_pos rfl]; omega
    · rw [if_neg e]
      have := off_le (hs := hs) (l := l) (a := a) (by
        rcases List.mem_cons.mp ha with z | z
        · exact absurd z.symm e
        · exact z)
      unfold tot at this
      omega
section
variable {hs : List Int} {room beg : Nat} {A : Nat → Prop} {ord : List Nat}
def pos (hs : List Int) (beg : Nat) (ord : List Nat) (a : Nat) : Nat := beg + off hs ord a
theorem fwd_fw {w : Int} : fwd hs beg ord w = fw (pos hs beg ord) w := rfl
theorem lay (G : Good hs A room) (hnd : ord.Nodup) (hA : ∀ a ∈ ord, A a) (hb : beg + room ≤ 2 * room) {a : Nat} (ha : a ∈ ord) {w : Int} (hw : At hs a w) :
    At (newH room beg (rows hs beg ord ord)) (pos hs beg ord a) w ∧ fls (newH room beg (rows hs beg ord ord)) (pos hs beg ord a) = (fls hs a).map (fwd hs beg ord) ∧ siz (newH room beg (rows hs beg ord ord)) (pos hs beg ord a) = siz hs a := by
  obtain ⟨l1, l2, ho, na⟩ : ∃ l1 l2, ord = l1 ++ a :: l2 ∧ a ∉ l1 := by
    obtain ⟨l1, l2, e⟩ := List.append_of_mem ha
    refine ⟨l1, l2, e, fun z => ?_⟩
    rw [e, List.nodup_append] at hnd
    exact hnd.2.2 a z a (by simp) rfl
  have few : tot hs ord ≤ room := G.fit ord hnd hA
  have rl := rows_len (beg := beg) (ord := ord) (l := l1) fun b hb => G.at_ b (hA b (by rw [ho]; exact List.mem_append_left _ hb))
  have ra := rows_len (beg := beg) (ord := ord) (l := ord) fun b hb => G.at_ b (hA b hb)
  have hp : pos hs beg ord a = beg + tot hs l1 := by unfold pos; rw [ho, off_new na]
  have split : ∃ rest, newH room beg (rows hs beg ord ord) = (List.replicate beg 0 ++ rows hs beg ord l1) ++ (w :: ((fls hs a).map (fwd hs beg ord) ++ rest)) := by
    refine ⟨rows hs beg ord l2 ++ List.replicate (2 * room - beg - (rows hs beg ord ord).length) 0, ?_⟩
    unfold newH
    have e : rows hs beg ord ord = rows hs beg ord l1 ++ (row hs beg ord a ++ rows hs beg ord l2) := by
      conv => lhs; arg 4; rw [ho]
      rw [rows_app]
      simp [rows]
    rw [e]
    simp [row, hw.hdr]
  obtain ⟨rest, sp⟩ := split
  have pl : (List.replicate beg (0 : Int) ++ rows hs beg ord l1).length = pos hs beg ord a := by rw [hp, List.length_append, List.length_replicate, rl]
  have len : (newH room beg (rows hs beg ord ord)).length = 2 * room := newH_len (by rw [ra]; omega)
  have get : (newH room beg (rows hs beg ord ord))[pos hs beg ord a]? = some w := by rw [sp, ← pl]; simp
  have mn : mny (newH room beg (rows hs beg ord ord)) (pos hs beg ord a) = mny hs a := by
    unfold mny
    rw [List.getD_eq_getElem?_getD, List.getD_eq_getElem?_getD, get, hw.1]
  have sz : siz (newH room beg (rows hs beg ord ord)) (pos hs beg ord a) = siz hs a := by unfold siz; rw [mn]
  have le := off_le (hs := hs) ha
  refine ⟨⟨get, hw.2.1, hw.2.2.1, by rw [sz, len]; unfold pos; omega⟩, ?_, sz⟩
  unfold fls
  rw [mn, sp, ← pl]
  rw [← List.drop_drop, List.drop_left, List.drop_one, List.tail_cons]
  rw [List.take_left' (by rw [List.length_map]; exact hw.len)]
  rfl
/-- the addresses behind it -/
def img (hs : List Int) (beg : Nat) (ord : List Nat) (b : Nat) : Prop := ∃ a ∈ ord, b = pos hs beg ord a
theorem pos_inj : ∀ a ∈ ord, ∀ b ∈ ord, pos hs beg ord a = pos hs beg ord b → a = b := fun a ha b hb h => off_inj (hs := hs) ha hb (by unfold pos at h; omega)
theorem wd_img {w : Int} (h : Wd (· ∈ ord) w) : Wd (img hs beg ord) (fwd hs beg ord w) := by
  rcases h with z | ⟨a, rfl, ha⟩
  · rw [fwd_fw, fw_odd z]; exact .inl z
  · rw [fwd_fw, fw_even]; exact .inr ⟨_, rfl, a, ha, rfl⟩
theorem unmap {f : Nat → Nat} {P : Nat → Prop} : ∀ (l : List Nat), (∀ b ∈ l, ∃ a, P a ∧ b = f a) → ∃ l0 : List Nat, l = l0.map f ∧ ∀ a ∈ l0, P a
  | [], _ => ⟨[], rfl, by simp⟩
  | b :: l, h => by
    obtain ⟨a, ha, e⟩ := h b (by simp)
    obtain ⟨l0, e0, h0⟩ := unmap (f := f) (P := P) l fun x hx => h x (List.mem_cons_of_mem _ hx)
    exact ⟨a :: l0, by rw [List.map_cons, ← e, ← e0], fun x hx => by
      rcases List.mem_cons.mp hx with z | z
      · rw [z]; exact ha
      · exact h0 x z⟩
theorem has_wd {w : Int} (h : Has ord w) (hw : Wd A w) : Wd (· ∈ ord) w := by
  rcases hw with z | ⟨a, rfl, _⟩
  · exact .inl z
  · rcases h with z | z
    · exact .inl z
    · rw [wA2] at z; exact .inr ⟨a, rfl, z⟩
theorem tot_img (G : Good hs A room) (hnd : ord.Nodup) (hA : ∀ a ∈ ord, A a) (hb : beg + room ≤ 2 * room) : ∀ {l : List Nat}, (∀ a ∈ l, a ∈ ord) → tot (newH room beg (rows hs beg ord ord)) (l.map (pos hs beg ord)) = tot hs l
  | [], _ => rfl
  | a :: l, h => by
    obtain ⟨w, hw⟩ := G.at_ a (hA a (h a (by simp)))
    have e := (lay G hnd hA hb (h a (by simp)) hw).2.2
    have ih := tot_img G hnd hA hb (l := l) fun x hx => h x (List.mem_cons_of_mem _ hx)
    unfold tot at ih ⊢
    simp only [List.map_cons, List.sum_cons, e, ih]
theorem good_img (G : Good hs A room) (hnd : ord.Nodup) (hA : ∀ a ∈ ord, A a) (hb : beg + room ≤ 2 * room) (cl : ∀ a ∈ ord, ∀ w ∈ fls hs a, Has ord w) : Good (newH room beg (rows hs beg ord ord)) (img hs beg ord) room := by
  refine ⟨?_, ?_, ?_⟩
  · rintro b ⟨a, ha, rfl⟩
    obtain ⟨w, hw⟩ := G.at_ a (hA a ha)
    exact ⟨w, (lay G hnd hA hb ha hw).1⟩
  · rintro b ⟨a, ha, rfl⟩ f hf
    obtain ⟨w, hw⟩ := G.at_ a (hA a ha)
    rw [(lay G hnd hA hb ha hw).2.1] at hf
    obtain ⟨v, hv, rfl⟩ := List.mem_map.mp hf
    exact wd_img (has_wd (cl a ha v hv) (G.fl a (hA a ha) v hv))
  · intro l hl hm
    obtain ⟨l0, rfl, h0⟩ := unmap (f := pos hs beg ord) (P := (· ∈ ord)) l fun b hb => hm b hb
    have e := tot_img G hnd hA hb h0
    have nd0 : l0.Nodup := by
      have : ∀ (m : List Nat), (m.map (pos hs beg ord)).Nodup → m.Nodup := fun m h => by
        induction m with
        | nil => simp
        | cons x m ih =>
          rw [List.map_cons, List.nodup_cons] at h
          rw [List.nodup_cons]
          exact ⟨fun z => h.1 (List.mem_map.mpr ⟨x, z, rfl⟩), ih h.2⟩
      exact this l0 hl
    unfold tot at e
    rw [e]
    exact G.fit l0 nd0 fun a ha => hA a (h0 a ha)
theorem iso_img (G : Good hs A room) (hnd : ord.Nodup) (hA : ∀ a ∈ ord, A a) (hb : beg + room ≤ 2 * room) (cl : ∀ a ∈ ord, ∀ w ∈ fls hs a, Has ord w) : Iso hs (newH room beg (rows hs beg ord ord)) ord (pos hs beg ord) := by
  refine ⟨pos_inj, fun a ha w hw => (lay G hnd hA hb ha hw).1, fun a ha => ?_, fun a ha w hw => has_wd (cl a ha w hw) (G.fl a (hA a ha) w hw)⟩
  obtain ⟨w, hw⟩ := G.at_ a (hA a ha)
  exact (lay G hnd hA hb ha hw).2.1
theorem part_img (G : Good hs A room) (hnd : ord.Nodup) (hA : ∀ a ∈ ord, A a) (hb : beg + room ≤ 2 * room) : Part (newH room beg (rows hs beg ord ord)) beg room (img hs beg ord) := by
  have few : tot hs ord ≤ room := G.fit ord hnd hA
  have ra := rows_len (beg := beg) (ord := ord) (l := ord) fun b hb => G.at_ b (hA b hb)
  refine ⟨?_, ?_, by rw [newH_len (by rw [ra]; omega)]; exact hb⟩
  · rintro b ⟨a, ha, rfl⟩; unfold pos; omega
  · rintro b ⟨a, ha, rfl⟩
    obtain ⟨w, hw⟩ := G.at_ a (hA a ha)
    rw [(lay G hnd hA hb ha hw).2.2]
    have := off_le (hs := hs) ha
    unfold pos
    omega
theorem place_img {o : List Nat} {w : Int} {f : Nat → Nat} (hf : ∀ a ∈ ord, ∀ b ∈ ord, f a = f b → a = b) (h : ∀ a ∈ o, a ∈ ord) (hw : Wd (· ∈ ord) w) : place (o.map f) (fw f w) = (place o w).map f := by
  rcases hw with z | ⟨a, rfl, ha⟩
  · rw [fw_odd z]; unfold place; rw [if_pos z, if_pos z]
  · rw [fw_even]
    have n1 : ¬ 2 * (a : Int) % 2 = 1 := by omega
    have n2 : ¬ 2 * ((f a : Nat) : Int) % 2 = 1 := by omega
    unfold place
    rw [if_neg n1, if_neg n2, wA2, wA2]
    by_cases m : a ∈ o
    · rw [if_pos m, if_pos (List.mem_map.mpr ⟨a, m, rfl⟩)]
    · rw [if_neg m, if_neg (fun z => by
        obtain ⟨b, hb, e⟩ := List.mem_map.mp z
        exact m ((hf b (h b hb) a ha e) ▸ hb))]
      simp
theorem places_img {f : Nat → Nat} (hf : ∀ a ∈ ord, ∀ b ∈ ord, f a = f b → a = b) : ∀ {ws : List Int} {o : List Nat}, (∀ a ∈ o, a ∈ ord) → (∀ w ∈ ws, Wd (· ∈ ord) w) → places (o.map f) (ws.map (fw f)) = (places o ws).map f
  | [], _, _, _ => rfl
  | w :: ws, o, h, hw => by
    rw [List.map_cons, places_cons, places_cons, place_img hf h (hw w (by simp))]
    exact places_img hf (place_A h (hw w (by simp))) fun v hv => hw v (List.mem_cons_of_mem _ hv)
theorem Scan.img {hs' : List Int} {f : Nat → Nat} (I : Iso hs hs' ord f) {k : Nat} {o o' : List Nat} (s : Scan hs k o o') : (∀ a ∈ o, a ∈ ord) → Scan hs' k (o.map f) (o'.map f) := by
  induction s with
  | done h => exact fun _ => .done (by rw [List.length_map]; exact h)
  | @step k o o' a ha _ ih =>
    intro h
    have ma := h a (List.mem_of_getElem? ha)
    refine .step (a := f a) (by rw [List.getElem?_map, ha]; rfl) ?_
    have e : fls hs' (f a) = (fls hs a).map (fw f) := I.fl a ma
    rw [e, places_img I.inj h (I.cl a ma)]
    exact ih (places_A h (I.cl a ma))
end
end K69
end FW

set_option maxHeartbeats 4000000
namespace FW
namespace K69
open PySem L2

/-! ### alike -/
def sml (i : Int) : Prop := i.natAbs < 10 ^ 18
theorem show_int {i : Int} (h : sml i) : PyData.showable (.int i) = true := by
  have h1 : i.natAbs < 2 ^ 1920 := Nat.lt_of_lt_of_le h (by decide +kernel)
  have h2 : i.natAbs.log2 < 1920 := by
    by_cases e : i.natAbs = 0
    · rw [e]; decide
    · exact (Nat.log2_lt e).mpr h1
  simp only [PyData.showable]
  exact decide_eq_true h2
theorem short_int {i : Int} (h : sml i) : PyData.leavesShort 30 (.int i) = true := by
  have e := int_text_length_le10 (k := 18) (by decide) h
  simp only [PyData.leavesShort, PyData.shown]
  refine decide_eq_true ?_
  show (Str.ofString (toString i)).length ≤ 30
  rw [ofString_length]
  omega
theorem showI : ∀ {ns : List Int}, (∀ n ∈ ns, sml n) → PyData.showableAll (pI ns) = true
  | [], _ => by simp [pI, PyData.showableAll]
  | n :: ns, h => by
    have ih := showI (ns := ns) fun m hm => h m (List.mem_cons_of_mem _ hm)
    rw [show pI (n :: ns) = .int n :: pI ns from rfl]
    simp only [PyData.showableAll, show_int (h n (by simp)), ih, Bool.and_self]
theorem shortI : ∀ {ns : List Int}, (∀ n ∈ ns, sml n) → PyData.leavesShortAll 30 (pI ns) = true
  | [], _ => by simp [pI, PyData.leavesShortAll]
  | n :: ns, h => by
    have ih := shortI (ns := ns) fun m hm => h m (List.mem_cons_of_mem _ hm)
    rw [show pI (n :: ns) = .int n :: pI ns from rfl]
    simp only [PyData.leavesShortAll, short_int (h n (by simp)), ih, Bool.and_self]
theorem bulkI : ∀ {ns : List Int}, PyData.bulkAll (pI ns) = ns.length
  | [] => by simp [pI, PyData.bulkAll]
  | n :: ns => by
    have ih := bulkI (ns := ns)
    rw [show pI (n :: ns) = .int n :: pI ns from rfl]
    simp only [PyData.bulkAll, PyData.bulk, ih, List.length_cons]
    omega
/-- a datum that is like itself -/
def Fine (p : PyData) : Prop := PyData.canLay0 p = true ∧ PyData.showable p = true ∧ PyData.leavesShort 30 p = true ∧ PyData.depth p ≤ 10 ∧ PyData.bulk p ≤ 30000
theorem Fine.shaped {p : PyData} (h : Fine p) : SeqAt.shaped p = true := by
  unfold SeqAt.shaped
  rw [h.1, Bool.true_and]
  exact decide_eq_true (by have := h.2.2.2.1; omega)
theorem Fine.shows {p : PyData} (h : Fine p) : shows p := by
  refine ⟨h.2.1, by have := h.2.2.2.1; omega, ?_⟩
  have a := PyData.shown_le_bulk 30 (by decide) p h.2.2.1
  have b := h.2.2.2.2
  exact fitz (by omega)
theorem g_alike {st : Store} {x : D} {ds : List D} {p : PyData} (hp : PD st x p) (hq : seqOf x st = some ds) (h : Fine p) : G_law_alike [x, x] st = some (.bl true, st) := by
  refine runF_rt ?_
  have e1 : oEqA x x st = some (.bl true, st) := by
    have e : oEq x x st = some (.bl true, st) := by
      show oData PyData.eqv _ _ _ = _
      rw [oData_of hp hp h.shaped h.shaped, SeqAt.eqv_refl _ h.1]
    cases x with
    | str z => cases hq
    | _ => exact e
  have e2 := fRepr_of hp h.shows hq
  have e3 : ∀ s : Str, oEqA (.str s) (.str s) st = some (.bl true, st) := fun s => by simp [oEqA]
  simp [m_law_alike, m_law_alike_1, env0, xAndV, e1, truB, e2, e3]
theorem g_alikeI {st : Store} {i : Int} (h : sml i) : G_law_alike [.int i, .int i] st = some (.bl true, st) := by
  refine runF_rt ?_
  have hl : i.natAbs.log2 < 1920 := by
    have := show_int h
    simp only [PyData.showable] at this
    exact of_decide_eq_true this
  have e2 : fRepr [.int i] st = some (.str (toString i), st) := by
    simp only [fRepr]
    exact if_pos hl
  have e3 : ∀ s : Str, oEqA (.str s) (.str s) st = some (.bl true, st) := fun s => by simp [oEqA]
  simp [m_law_alike, m_law_alike_1, env0, xAndV, ev_eqI, truB, e2, e3]
theorem fineT {ns : List Int} (h : ∀ n ∈ ns, sml n) (hl : ns.length ≤ 9000) : Fine (.tuple (pI ns)) :=
  ⟨by simp [PyData.canLay0, canI], by simp [PyData.showable, showI h], by simp [PyData.leavesShort, shortI h], by simp [PyData.depth, depI], by simp only [PyData.bulk, bulkI]; omega⟩
/-- [a tuple of ints, an int] -/
theorem alike_1 {st : Store} {ns : List Int} {i : Int} (h : ∀ n ∈ ns, sml n) (hl : ns.length ≤ 9000) (hi : sml i) : G_law_alike [.lst [.tup (iD ns), .int i], .lst [.tup (iD ns), .int i]] st = some (.bl true, st) := by
  have f := fineT h hl
  refine g_alike (.lst (.cons pd_tup (.cons (.int i) .nil))) rfl ⟨?_, ?_, ?_, ?_, ?_⟩
  · simp [PyData.canLay0, PyData.canLayAll0, canI]
  · simp only [PyData.showable, PyData.showableAll, showI h, Bool.true_and, Bool.and_true]
    have := show_int hi
    simp only [PyData.showable] at this
    exact this
  · simp only [PyData.leavesShort, PyData.leavesShortAll, shortI h, Bool.true_and, Bool.and_true]
    have := short_int hi
    simp only [PyData.leavesShort] at this
    exact this
  · simp [PyData.depth, PyData.depthAll, depI]
  · simp only [PyData.bulk, PyData.bulkAll, bulkI]; omega
/-- (a tuple of ints, an int, a tuple of ints) -/
theorem alike_3 {st : Store} {ns ms : List Int} {i : Int} (h : ∀ n ∈ ns, sml n) (hl : ns.length ≤ 9000) (hi : sml i) (h' : ∀ n ∈ ms, sml n) (hl' : ms.length ≤ 9000) : G_law_alike [.tup [.tup (iD ns), .int i, .tup (iD ms)], .tup [.tup (iD ns), .int i, .tup (iD ms)]] st = some (.bl true, st) := by
  refine g_alike (.tup (.cons pd_tup (.cons (.int i) (.cons pd_tup .nil)))) rfl ⟨?_, ?_, ?_, ?_, ?_⟩
  · simp [PyData.canLay0, PyData.canLayAll0, canI]
  · simp only [PyData.showable, PyData.showableAll, showI h, showI h', Bool.true_and, Bool.and_true]
    have := show_int hi
    simp only [PyData.showable] at this
    exact this
  · simp only [PyData.leavesShort, PyData.leavesShortAll, shortI h, shortI h', Bool.true_and, Bool.and_true]
    have := short_int hi
    simp only [PyData.leavesShort] at this
    exact this
  · simp [PyData.depth, PyData.depthAll, depI]
  · simp only [PyData.bulk, PyData.bulkAll, bulkI]; omega
/-- repr([heap, roots]) -/
theorem repr_2 {st : Store} {ns ms : List Int} (h : ∀ n ∈ ns, sml n) (hl : ns.length ≤ 9000) (h' : ∀ n ∈ ms, sml n) (hl' : ms.length ≤ 9000) : ∃ s, ∀ st, fRepr [.lst [.tup (iD ns), .tup (iD ms)]] st = some (.str s, st) := by
  refine ⟨_, fun st => fRepr_of (p := .list [.tuple (pI ns), .tuple (pI ms)]) (.lst (.cons pd_tup (.cons pd_tup .nil))) (Fine.shows ⟨?_, ?_, ?_, ?_, ?_⟩) rfl⟩
  · simp [PyData.canLay0, PyData.canLayAll0, canI]
  · simp only [PyData.showable, PyData.showableAll, showI h, showI h', Bool.and_self]
  · simp only [PyData.leavesShort, PyData.leavesShortAll, shortI h, shortI h', Bool.and_self]
  · simp [PyData.depth, PyData.depthAll, depI]
  · simp only [PyData.bulk, PyData.bulkAll, bulkI]; omega
end K69
end FW

set_option maxHeartbeats 4000000
namespace FW
namespace K69
open PySem L2

/-! ### a heap that is drawn, in the plain -/
theorem sum_sub {f : Nat → Nat} : ∀ {l P : List Nat}, l.Nodup → (∀ a ∈ l, a ∈ P) → (l.map f).sum ≤ (P.map f).sum
  | [], P, _, _ => by simp
  | a :: l, P, h, hs => by
    rw [List.nodup_cons] at h
    have p := List.perm_cons_erase (hs a (by simp))
    have e : (P.map f).sum = f a + ((P.erase a).map f).sum := by
      have := (p.map f)
      rw [this.sum_nat]
      simp
    have ih := sum_sub (f := f) (l := l) (P := P.erase a) h.2 fun b hb => by
      have ne : b ≠ a := fun z => h.1 (z ▸ hb)
      exact (List.mem_erase_of_ne ne).mpr (hs b (List.mem_cons_of_mem _ hb))
    rw [e, List.map_cons, List.sum_cons]
    omega
/-- where the chunks begin -/
def starts (lo : Nat) : List (List Int) → List Nat
  | [] => []
  | c :: cs => lo :: starts (lo + c.length) cs
theorem starts_app {lo : Nat} {a b : List (List Int)} : starts lo (a ++ b) = starts lo a ++ starts (lo + a.flatten.length) b := by
  induction a generalizing lo with
  | nil => simp [starts]
  | cons c a ih =>
    simp only [List.cons_append, starts, ih, List.flatten_cons, List.length_append]
    rw [Nat.add_assoc]
theorem starts_mem {lo : Nat} {x : Nat} : ∀ {cs : List (List Int)}, x ∈ starts lo cs → ∃ a c b, cs = a ++ c :: b ∧ x = lo + a.flatten.length
  | c :: cs, h => by
    simp only [starts, List.mem_cons] at h
    rcases h with h | h
    · exact ⟨[], c, cs, rfl, by simp [h]⟩
    · obtain ⟨a, d, b, e, e2⟩ := starts_mem (lo := lo + c.length) h
      exact ⟨c :: a, d, b, by rw [e]; rfl, by rw [e2]; simp; omega⟩
/-- a chunk that is an object; P: all addresses -/
def Chk (P : List Nat) (c : List Int) : Prop := ∃ w fs, c = w :: fs ∧ w % 2 = 1 ∧ 0 ≤ w ∧ (w / 10 % 256).toNat = fs.length ∧ (∀ f ∈ fs, Wd (· ∈ P) f) ∧ ∀ f ∈ c, sml f
theorem chunk_at {pre post : List Int} {lo : Nat} {P : List Nat} {cs a b : List (List Int)} {c : List Int} (hlo : pre.length = lo) (hc : Chk P c) (e : cs = a ++ c :: b) :
    ∃ w, At (pre ++ cs.flatten ++ post) (lo + a.flatten.length) w ∧ siz (pre ++ cs.flatten ++ post) (lo + a.flatten.length) = c.length ∧ ∀ f ∈ fls (pre ++ cs.flatten ++ post) (lo + a.flatten.length), Wd (· ∈ P) f := by
  obtain ⟨w, fs, rfl, h1, h2, h3, h4, _⟩ := hc
  have sp : pre ++ cs.flatten ++ post = (pre ++ a.flatten) ++ (w :: (fs ++ (b.flatten ++ post))) := by rw [e]; simp
  have pl : (pre ++ a.flatten).length = lo + a.flatten.length := by rw [List.length_append, hlo]
  have get : (pre ++ cs.flatten ++ post)[lo + a.flatten.length]? = some w := by rw [sp, ← pl]; simp
  have mn : mny (pre ++ cs.flatten ++ post) (lo + a.flatten.length) = fs.length := by
    unfold mny
    rw [List.getD_eq_getElem?_getD, get]
    exact h3
  have sz : siz (pre ++ cs.flatten ++ post) (lo + a.flatten.length) = (w :: fs).length := by unfold siz; rw [mn, List.length_cons]; omega
  refine ⟨w, ⟨get, h1, h2, ?_⟩, sz, ?_⟩
  · rw [sz, sp, ← pl]
    simp only [List.length_append, List.length_cons]
    omega
  · have fe : fls (pre ++ cs.flatten ++ post) (lo + a.flatten.length) = fs := by
      unfold fls
      rw [mn, sp, ← pl, ← List.drop_drop, List.drop_left, List.drop_one, List.tail_cons, List.take_left]
    rw [fe]
    exact h4
theorem good_chunks {room lo : Nat} {cs : List (List Int)} (hc : ∀ c ∈ cs, Chk (starts lo cs) c) (hl : cs.flatten.length ≤ room) (hlo : lo + room ≤ 2 * room) : Good (newH room lo cs.flatten) (· ∈ starts lo cs) room ∧ Part (newH room lo cs.flatten) lo room (· ∈ starts lo cs) := by
  have pl : (List.replicate lo (0 : Int)).length = lo := by simp
  have at_ : ∀ x, x ∈ starts lo cs → ∃ a c b, cs = a ++ c :: b ∧ x = lo + a.flatten.length ∧ Chk (starts lo cs) c := fun x hx => by
    obtain ⟨a, c, b, e, e2⟩ := starts_mem hx
    exact ⟨a, c, b, e, e2, hc c (by rw [e]; simp)⟩
  have tt : ∀ (d a : List (List Int)), cs = a ++ d → ((starts (lo + a.flatten.length) d).map (siz (newH room lo cs.flatten))).sum = d.flatten.length := by
    intro d
    induction d with
    | nil => intro a _; simp [starts]
    | cons c d ih =>
      intro a e
      obtain ⟨w, _, h2, _⟩ := chunk_at (post := List.replicate (2 * room - lo - cs.flatten.length) 0) pl (hc c (by rw [e]; simp)) e
      have i := ih (a ++ [c]) (by rw [e]; simp)
      simp only [starts, List.map_cons, List.sum_cons, List.flatten_cons, List.length_append]
      have e3 : siz (newH room lo cs.flatten) (lo + a.flatten.length) = c.length := h2
      rw [e3]
      rw [show lo + (a ++ [c]).flatten.length = lo + a.flatten.length + c.length by simp; omega] at i
      rw [i]
  have t0 := tt cs [] rfl
  simp only [List.flatten_nil, List.length_nil, Nat.add_zero] at t0
  refine ⟨⟨fun x hx => ?_, fun x hx f hf => ?_, fun l hn hm => ?_⟩, fun x hx => ?_, fun x hx => ?_, ?_⟩
  · obtain ⟨a, c, b, e, rfl, k⟩ := at_ x hx
    obtain ⟨w, h1, _⟩ := chunk_at (post := List.replicate (2 * room - lo - cs.flatten.length) 0) pl k e
    exact ⟨w, h1⟩
  · obtain ⟨a, c, b, e, rfl, k⟩ := at_ x hx
    obtain ⟨w, _, _, h3⟩ := chunk_at (post := List.replicate (2 * room - lo - cs.flatten.length) 0) pl k e
    exact h3 f hf
  · have := sum_sub (f := siz (newH room lo cs.flatten)) hn hm
    omega
  · obtain ⟨a, c, b, e, rfl, k⟩ := at_ x hx
    omega
  · obtain ⟨a, c, b, e, rfl, k⟩ := at_ x hx
    obtain ⟨w, _, h2, _⟩ := chunk_at (post := List.replicate (2 * room - lo - cs.flatten.length) 0) pl k e
    have h2' : siz (newH room lo cs.flatten) (lo + a.flatten.length) = c.length := h2
    rw [h2']
    have : cs.flatten.length = a.flatten.length + c.length + b.flatten.length := by rw [e]; simp; omega
    omega
  · rw [newH_len (by omega)]; exact hlo
theorem newH_sml {room lo : Nat} {cs : List (List Int)} (hc : ∀ c ∈ cs, ∀ f ∈ c, sml f) : ∀ n ∈ newH room lo cs.flatten, sml n := by
  intro n hn
  unfold newH at hn
  have z : sml 0 := by unfold sml; decide
  rcases List.mem_append.mp hn with h | h
  · rcases List.mem_append.mp h with h | h
    · rw [List.eq_of_mem_replicate h]; exact z
    · obtain ⟨c, hc1, hc2⟩ := List.mem_flatten.mp h
      exact hc c hc1 n hc2
  · rw [List.eq_of_mem_replicate h]; exact z
end K69
end FW

set_option maxHeartbeats 4000000
namespace FW
namespace K69
open PySem L2

/-! ### a heap that is drawn -/
theorem g_sort_for {st : Store} {b : Nat} (h : Bag st b) {m : Int} (h0 : 0 ≤ m) : ∃ s e o, G_law_sort_for [.ref b, .int m, .lst [.int 0, .int 1, .int 2, .int 5]] st = some (.tup [.int s, .int e], st.set b o) ∧ BagOb o ∧ 0 ≤ s ∧ s ≤ 4 ∧ 0 ≤ e ∧ e ≤ 5 := by
  obtain ⟨s, o1, s0, s4, bo1, e1⟩ : ∃ (s : Int) (o1 : Ob), 0 ≤ s ∧ s ≤ 4 ∧ BagOb o1 ∧ m_law_sort_for_1 [some (.ref b), some (.int m), some (.lst [.int 0, .int 1, .int 2, .int 5]), none] st = some (.nx [some (.ref b), some (.int m), some (.lst [.int 0, .int 1, .int 2, .int 5]), some (.int s)], st.set b o1) := by
    by_cases hm : m = 0
    · obtain ⟨o, ho, bo⟩ := h
      refine ⟨4, o, by omega, by omega, bo, ?_⟩
      have same : st.set b o = st := by
        apply List.ext_getElem?
        intro i
        rw [List.getElem?_set]
        split
        · rename_i hi; subst hi; rw [if_pos (List.getElem?_eq_some_iff.mp ho).1, ho]
        · rfl
      rw [same]
      unfold m_law_sort_for_1
      rw [ev_sAsg, ev_xIf_t (st1 := st) (by simp [ev_eqI, hm])]
      simp
    · have key : ∀ ds : List D, 0 < ds.length → ds.length < 100000 → (∀ d ∈ ds, ∃ i : Int, d = .int i ∧ 0 ≤ i ∧ i ≤ 4) → xVal (xIf (xTst (x2 oEqA (xV 1) (xC (.int 1)))) (xLst (aC (xC (.int 0)) (aC (xC (.int 1)) (aC (xC (.int 4)) (aC (xC (.int 2)) (aC (xC (.int 3)) aN)))))) (xLst (aC (xC (.int 0)) (aC (xC (.int 1)) (aC (xC (.int 4)) aN))))) [some (.ref b), some (.int m), some (.lst [.int 0, .int 1, .int 2, .int 5]), none] st = some (.ok (.lst ds), st) →
          ∃ (s : Int) (o1 : Ob), 0 ≤ s ∧ s ≤ 4 ∧ BagOb o1 ∧ m_law_sort_for_1 [some (.ref b), some (.int m), some (.lst [.int 0, .int 1, .int 2, .int 5]), none] st = some (.nx [some (.ref b), some (.int m), some (.lst [.int 0, .int 1, .int 2, .int 5]), some (.int s)], st.set b o1) := by
        intro ds l1 l2 hd hx
        obtain ⟨v, o, hv, g, bo⟩ := g_someL h l1 l2
        obtain ⟨i, rfl, i0, i4⟩ := hd v hv
        refine ⟨i, o, i0, i4, bo, ?_⟩
        unfold m_law_sort_for_1
        rw [ev_sAsg, ev_xIf_f (st1 := st) (by simp [ev_eqI, hm]), ev_xCl, ev_aC, ev_xV (d := .ref b) rfl, ev_bnd_ok, ev_aC, hx, ev_bnd_ok, ev_aN, ev_bnd_ok]
        simp [g]
      by_cases h1 : m = 1
      · refine key [.int 0, .int 1, .int 4, .int 2, .int 3] (by simp) (by simp) (by simp) ?_
        rw [ev_xVal, ev_xIf_t (st1 := st) (by simp [ev_eqI, h1])]
        simp [sizeLine_eq]
      · refine key [.int 0, .int 1, .int 4] (by simp) (by simp) (by simp) ?_
        rw [ev_xVal, ev_xIf_f (st1 := st) (by simp [ev_eqI, h1])]
        simp [sizeLine_eq]
  have hb : Bag (st.set b o1) b := h.set bo1
  obtain ⟨v, o, hv, g, bo⟩ := g_someL hb (ds := [.int 0, .int 1, .int 2, .int 5]) (by simp) (by simp)
  rw [List.set_set] at g
  obtain ⟨e, rfl, e0, e5⟩ : ∃ i : Int, v = .int i ∧ 0 ≤ i ∧ i ≤ 5 := by
    simp at hv
    rcases hv with rfl | rfl | rfl | rfl
    · exact ⟨0, rfl, by omega, by omega⟩
    · exact ⟨1, rfl, by omega, by omega⟩
    · exact ⟨2, rfl, by omega, by omega⟩
    · exact ⟨5, rfl, by omega, by omega⟩
  by_cases hs : s = 0
  · refine ⟨s, 0, o1, runF_rt ?_, bo1, s0, s4, by omega, by omega⟩
    unfold m_law_sort_for
    rw [show env0 4 [.ref b, .int m, .lst [.int 0, .int 1, .int 2, .int 5]] = [some (.ref b), some (.int m), some (.lst [.int 0, .int 1, .int 2, .int 5]), none] from rfl, ev_sSeq e1]
    unfold m_law_sort_for_2
    rw [ev_sRet, ev_xTup, ev_aC, ev_xV (d := .int s) rfl, ev_bnd_ok, ev_aC, ev_xIf_t (st1 := st.set b o1) (by simp [ev_eqI, hs])]
    simp [sizeLine_eq]
  · refine ⟨s, e, o, runF_rt ?_, bo, s0, s4, e0, e5⟩
    unfold m_law_sort_for
    rw [show env0 4 [.ref b, .int m, .lst [.int 0, .int 1, .int 2, .int 5]] = [some (.ref b), some (.int m), some (.lst [.int 0, .int 1, .int 2, .int 5]), none] from rfl, ev_sSeq e1]
    unfold m_law_sort_for_2
    rw [ev_sRet, ev_xTup, ev_aC, ev_xV (d := .int s) rfl, ev_bnd_ok, ev_aC, ev_xIf_f (st1 := st.set b o1) (by simp [ev_eqI, hs])]
    simp [g, sizeLine_eq]
/-! the store in the making -/
def Frm (st : Store) (b : Nat) (T : Store) : Prop := st.length ≤ T.length ∧ b < st.length ∧ ∃ o, BagOb o ∧ T.take st.length = st.set b o
section
variable {st T : Store} {b : Nat}
theorem Frm.bag (h : Frm st b T) : Bag T b := by
  obtain ⟨h1, h2, o, bo, e⟩ := h
  refine ⟨o, ?_, bo⟩
  rw [← List.getElem?_take_of_lt h2, e]
  exact ev_set_get h2
theorem Frm.setb (h : Frm st b T) {o : Ob} (bo : BagOb o) : Frm st b (T.set b o) := by
  obtain ⟨h1, h2, o', _, e⟩ := h
  exact ⟨by rw [List.length_set]; exact h1, h2, o, bo, by rw [List.take_set, e, List.set_set]⟩
theorem Frm.setq (h : Frm st b T) {q : Nat} {x : Ob} (hq : st.length ≤ q) : Frm st b (T.set q x) := by
  obtain ⟨h1, h2, o', bo, e⟩ := h
  exact ⟨by rw [List.length_set]; exact h1, h2, o', bo, by rw [List.take_set, List.set_eq_of_length_le (by rw [List.length_take]; omega), e]⟩
theorem Frm.push (h : Frm st b T) {x : Ob} : Frm st b (T ++ [x]) := by
  obtain ⟨h1, h2, o', bo, e⟩ := h
  exact ⟨by rw [List.length_append]; omega, h2, o', bo, by rw [List.take_append_of_le_length h1, e]⟩
theorem Frm.start (h : Bag st b) : Frm st b st := by
  have hb := bag_len h
  obtain ⟨o, ho, bo⟩ := h
  refine ⟨Nat.le_refl _, hb, o, bo, ?_⟩
  rw [List.take_length]
  apply List.ext_getElem?
  intro i
  rw [List.getElem?_set]
  split
  · rename_i hi; subst hi; first | exact ho | exact ho.symm
  · rfl
theorem get_setb (h : Frm st b T) {q : Nat} (hq : st.length ≤ q) {o : Ob} : (T.set b o)[q]? = T[q]? := by
  have := h.2.1
  rw [List.getElem?_set_ne (by omega)]
end
end K69
end FW

set_option maxHeartbeats 4000000
namespace FW
namespace K69
open PySem L2

theorem fitz' {n : Nat} (h : n < 1000) : n < sizeLine := Nat.lt_of_lt_of_le h (Nat.le_trans (by decide) sizeLine_big)
section
variable {st : Store} {b : Nat}
def hE (b : Nat) (zs : List Int) (h room n at' : Nat) (y2 x8 x9 x10 x11 x12 x13 : Option D) : Env :=
  [some (.ref b), some (.lst (iD zs)), y2, some (.int h), some (.int room), some (.ref n), some (.ref (n + 1)), some (.int at'), x8, x9, x10, x11, x12, x13]
/-- a field is drawn -/
theorem hfield {T : Store} {zs : List Int} {h room at' q : Nat} {y2 x8 x9 x10 x11 x13 : Option D} {P : List Nat} {fl : List Int} (F : Frm st b T) (hp : T[st.length + 1]? = some (.lst (nD P))) (hq : T[q]? = some (.lst (iD fl))) (qn : st.length + 2 ≤ q) (P0 : 0 < P.length) (P1 : P.length < 100000) (Ps : ∀ a ∈ P, a < 100000) (hf : fl.length < 1000) :
    ∃ v o, BagOb o ∧ Wd (· ∈ P) v ∧ sml v ∧ b_law_heap_drawn_6b3b (hE b zs h room st.length at' y2 x8 x9 x10 x11 (some (.ref q)) x13) T = some (.nx (hE b zs h room st.length at' y2 x8 x9 x10 x11 (some (.ref q)) x13), (T.set b o).set q (.lst (iD (fl ++ [v])))) := by
  have bn := F.2.1
  obtain ⟨t, o1, g1, t0, t3, bo1⟩ := g_take F.bag (m := 3) (by omega) (by omega)
  have F1 := F.setb bo1
  have ty := tyL_ref hq
  have fin : ∀ (v : Int) (o : Ob), BagOb o → Wd (· ∈ P) v → sml v →
      (xIf (xTst (x2 oGt (xCl 2 G_law_take (aC (xV 0) (aC (xC (.int 3)) aN))) (xC (.int 0)))) (x2 oMul (xC (.int 2)) (xCl 2 G_law_some (aC (xV 0) (aC (xV 6) aN)))) (xCl 2 G_law_some (aC (xV 0) (aC (xVal (xLst (aC (xC (.int 11)) (aC (xC (.int 5)) (aC (xC (.int 13)) (aC (x1 oNeg (xC (.int 29))) aN)))))) aN)))) (hE b zs h room st.length at' y2 x8 x9 x10 x11 (some (.ref q)) x13) T = some (.ok (.int v), T.set b o) →
      ∃ v o, BagOb o ∧ Wd (· ∈ P) v ∧ sml v ∧ b_law_heap_drawn_6b3b (hE b zs h room st.length at' y2 x8 x9 x10 x11 (some (.ref q)) x13) T = some (.nx (hE b zs h room st.length at' y2 x8 x9 x10 x11 (some (.ref q)) x13), (T.set b o).set q (.lst (iD (fl ++ [v])))) := by
    intro v o bo wv sv hx
    refine ⟨v, o, bo, wv, sv, ?_⟩
    have hq2 : (T.set b o)[q]? = some (.lst (iD fl)) := by rw [get_setb F (by omega)]; exact hq
    have ap := app_ref (d := .int v) hq2 (by rw [iD_length]; exact fitz' hf)
    unfold b_law_heap_drawn_6b3b m_law_heap_drawn_6b3b1
    rw [ev_sEx, ev_xMeth]
    rw [show xV 12 (hE b zs h room st.length at' y2 x8 x9 x10 x11 (some (.ref q)) x13) T = some (.ok (.ref q), T) from rfl, ev_bnd_ok, if_pos ty, ev_aC, hx, ev_bnd_ok, ev_aN, ev_bnd_ok, ev_bnd_ok, ap]
    simp [iD]
  have tst : (xTst (x2 oGt (xCl 2 G_law_take (aC (xV 0) (aC (xC (.int 3)) aN))) (xC (.int 0)))) (hE b zs h room st.length at' y2 x8 x9 x10 x11 (some (.ref q)) x13) T = some (.ok (decide (0 < t)), T.set b o1) := by
    simp [hE, g1]
  by_cases h0 : 0 < t
  · have hp1 : (T.set b o1)[st.length + 1]? = some (.lst (nD P)) := by rw [get_setb F (by omega)]; exact hp
    obtain ⟨v, o2, hv, g2, bo2⟩ := g_some F1.bag (things := .ref (st.length + 1)) (ds := nD P) (seq_ref hp1) (fun o _ => seq_ref (by rw [get_setb F1 (by omega)]; exact hp1)) (by rw [nD_len]; exact P0) (by rw [nD_len]; exact P1)
    rw [List.set_set] at g2
    obtain ⟨a, ha, rfl⟩ : ∃ a ∈ P, v = .int (a : Int) := by
      unfold nD at hv
      obtain ⟨a, ha, e⟩ := List.mem_map.mp hv
      exact ⟨a, ha, e.symm⟩
    have as := Ps a ha
    refine fin (2 * (a : Int)) o2 bo2 (.inr ⟨a, rfl, ha⟩) (by unfold sml; omega) ?_
    rw [ev_xIf_t (by rw [tst, decide_eq_true h0])]
    simp [hE, g2, ev_mulI]
  · obtain ⟨v, o2, hv, g2, bo2⟩ := g_someL F1.bag (ds := [.int 11, .int 5, .int 13, .int (-29)]) (by simp) (by simp)
    rw [List.set_set] at g2
    obtain ⟨i, rfl, iw, is⟩ : ∃ i : Int, v = .int i ∧ i % 2 = 1 ∧ sml i := by
      simp only [List.mem_cons, List.not_mem_nil, or_false] at hv
      rcases hv with rfl | rfl | rfl | rfl
      · exact ⟨11, rfl, by omega, by unfold sml; decide⟩
      · exact ⟨5, rfl, by omega, by unfold sml; decide⟩
      · exact ⟨13, rfl, by omega, by unfold sml; decide⟩
      · exact ⟨-29, rfl, by omega, by unfold sml; decide⟩
    refine fin i o2 bo2 (.inl iw) is ?_
    rw [ev_xIf_f (by rw [tst, decide_eq_false h0])]
    simp [hE, g2, sizeLine_eq]
end
end K69
end FW

set_option maxHeartbeats 4000000
namespace FW
namespace K69
open PySem L2

section
variable {st : Store} {b : Nat}
theorem hfields {zs : List Int} {h room at' q : Nat} {y2 x8 x9 x10 x11 : Option D} {P : List Nat} {X : List Int} {ds0 : List D} (qn : st.length + 2 ≤ q) (P0 : 0 < P.length) (P1 : P.length < 100000) (Ps : ∀ a ∈ P, a < 100000) : ∀ (n : Nat) (lo : Int) (fl : List Int) (T : Store) (x13 : Option D), Frm st b T → T[st.length]? = some (.lst (iD X)) → T[st.length + 1]? = some (.lst (nD P)) → T[q]? = some (.lst (iD fl)) → fl.length + n < 1000 →
    ∃ fs T' y13, forL ⟨ds0, []⟩ (gN 13) b_law_heap_drawn_6b3b (rngD lo n) (hE b zs h room st.length at' y2 x8 x9 x10 x11 (some (.ref q)) x13) T = some (.nx (hE b zs h room st.length at' y2 x8 x9 x10 x11 (some (.ref q)) y13), T') ∧
      Frm st b T' ∧ T'[st.length]? = some (.lst (iD X)) ∧ T'[st.length + 1]? = some (.lst (nD P)) ∧ T'[q]? = some (.lst (iD (fl ++ fs))) ∧ fs.length = n ∧ (∀ f ∈ fs, Wd (· ∈ P) f ∧ sml f)
  | 0, lo, fl, T, x13, F, hX, hP, hq, _ => ⟨[], T, x13, by rw [show rngD lo 0 = [] from rfl, ev_for_nil hold_none], F, hX, hP, by simpa using hq, rfl, by simp⟩
  | n + 1, lo, fl, T, x13, F, hX, hP, hq, hl => by
    have bn := F.2.1
    obtain ⟨v, o, bo, wv, sv, body⟩ := hfield (st := st) (b := b) (zs := zs) (h := h) (room := room) (at' := at') (y2 := y2) (x8 := x8) (x9 := x9) (x10 := x10) (x11 := x11) (x13 := some (.int lo)) F hP hq qn P0 P1 Ps (by omega)
    have ql : q < (T.set b o).length := by rw [List.length_set]; exact (List.getElem?_eq_some_iff.mp hq).1
    obtain ⟨fs, T', y13, e, F', a1, a2, a3, a4, a5⟩ := hfields (zs := zs) (h := h) (room := room) (at' := at') (y2 := y2) (x8 := x8) (x9 := x9) (x10 := x10) (x11 := x11) (X := X) (ds0 := ds0) qn P0 P1 Ps n (lo + 1) (fl ++ [v]) ((T.set b o).set q (.lst (iD (fl ++ [v])))) (some (.int lo)) ((F.setb bo).setq (by omega))
      (by rw [List.getElem?_set_ne (by omega), get_setb F (by omega)]; exact hX) (by rw [List.getElem?_set_ne (by omega), get_setb F (by omega)]; exact hP) (ev_set_get ql) (by simp; omega)
    refine ⟨v :: fs, T', y13, ?_, F', a1, a2, by rw [a3]; simp, by simp [a4], ?_⟩
    · rw [rngD_succ, ev_for_cons hold_none (e1 := hE b zs h room st.length at' y2 x8 x9 x10 x11 (some (.ref q)) (some (.int lo))) (st1 := T) rfl body, e]
    · intro f hf
      rcases List.mem_cons.mp hf with z | z
      · rw [z]; exact ⟨wv, sv⟩
      · exact a5 f z
/-- an object is drawn and stored -/
theorem hobj {zs : List Int} {h room at' lo p z : Nat} {y2 x10 x11 x12 x13 : Option D} {P : List Nat} {W : List Int} {T : Store} (F : Frm st b T) (hX : T[st.length]? = some (.lst (iD (newH room lo W)))) (hP : T[st.length + 1]? = some (.lst (nD P))) (T2 : st.length + 2 ≤ T.length) (P0 : 0 < P.length) (P1 : P.length < 100000) (Ps : ∀ a ∈ P, a < 100000) (hz : z ≤ 3) (hp : p = lo + W.length) (hr : lo + W.length + 1 + z ≤ 2 * room) (hr2 : room ≤ 2900) :
    ∃ c T' y10 y11 y12 y13, b_law_heap_drawn_6b (hE b zs h room st.length at' y2 (some (.int (z : Int))) (some (.int (p : Int))) x10 x11 x12 x13) T = some (.nx (hE b zs h room st.length at' y2 (some (.int (z : Int))) (some (.int (p : Int))) y10 y11 y12 y13), T') ∧
      Frm st b T' ∧ T'[st.length]? = some (.lst (iD (newH room lo (W ++ c)))) ∧ T'[st.length + 1]? = some (.lst (nD P)) ∧ st.length + 2 ≤ T'.length ∧ Chk P c ∧ c.length = 1 + z := by
  obtain ⟨s, e, o, g, bo, s0, s4, e0, e5⟩ := g_sort_for F.bag (m := (z : Int)) (by omega)
  have F1 := F.setb bo
  have F2 : Frm st b (T.set b o ++ [.lst []]) := F1.push
  have L1 : (T.set b o).length = T.length := List.length_set
  have hX2 : (T.set b o ++ [Ob.lst []])[st.length]? = some (.lst (iD (newH room lo W))) := by rw [List.getElem?_append_left (by omega), get_setb F (by omega)]; exact hX
  have hP2 : (T.set b o ++ [Ob.lst []])[st.length + 1]? = some (.lst (nD P)) := by rw [List.getElem?_append_left (by omega), get_setb F (by omega)]; exact hP
  have hq2 : (T.set b o ++ [Ob.lst []])[T.length]? = some (.lst (iD [])) := by rw [← L1]; simp
  obtain ⟨fs, T', y13, lp, F', a1, a2, a3, a4, a5⟩ := hfields (st := st) (b := b) (zs := zs) (h := h) (room := room) (at' := at') (y2 := y2) (x8 := some (.int (z : Int))) (x9 := some (.int (p : Int))) (x10 := some (.int s)) (x11 := some (.int e)) (P := P) (X := newH room lo W) (ds0 := rngD 0 z) (q := T.length) T2 P0 P1 Ps z 0 [] (T.set b o ++ [.lst []]) x13 F2 hX2 hP2 hq2 (by simp; omega)
  simp only [List.nil_append] at a3
  let hd : Int := 2 * (5 * (256 * e + (z : Int)) + s) + 1
  have hdv : hd = 2 * (5 * (256 * e + (z : Int)) + s) + 1 := rfl
  have clen : (hd :: fs).length = 1 + z := by simp [a4]; omega
  have W1 : (newH room lo W).length = 2 * room := newH_len (by omega)
  have put := setSl_ref (S := T') (k := st.length) (X := newH room lo W) (Y := hd :: fs) (a := p) (c := p + 1 + z) a1 (by omega) (by omega) (by rw [W1, clen]; omega)
  rw [show (newH room lo W).take p ++ (hd :: fs) ++ (newH room lo W).drop (p + 1 + z) = newH room lo (W ++ hd :: fs) by rw [← newH_put (by rw [clen]; omega), hp, clen, Nat.add_assoc]] at put
  have kl : st.length < T'.length := (List.getElem?_eq_some_iff.mp a1).1
  refine ⟨hd :: fs, T'.set st.length (.lst (iD (newH room lo (W ++ hd :: fs)))), some (.int s), some (.int e), some (.ref T.length), y13, ?_, F'.setq (Nat.le_refl _), ev_set_get kl, by rw [List.getElem?_set_ne (by omega)]; exact a2, ?_, ⟨hd, fs, rfl, by omega, by omega, by omega, fun f hf => (a5 f hf).1, ?_⟩, clen⟩
  · unfold b_law_heap_drawn_6b
    rw [ev_sSeq (e1 := hE b zs h room st.length at' y2 (some (.int (z : Int))) (some (.int (p : Int))) (some (.int s)) (some (.int e)) x12 x13) (st1 := T.set b o) (by simp [m_law_heap_drawn_6b1, hE, sizeLine_eq, g, gT, gsC])]
    rw [ev_sSeq (e1 := hE b zs h room st.length at' y2 (some (.int (z : Int))) (some (.int (p : Int))) (some (.int s)) (some (.int e)) (some (.ref T.length)) x13) (st1 := T.set b o ++ [.lst []]) (by simp [m_law_heap_drawn_6b2, hE, sizeLine_eq])]
    rw [ev_sSeq (e1 := hE b zs h room st.length at' y2 (some (.int (z : Int))) (some (.int (p : Int))) (some (.int s)) (some (.int e)) (some (.ref T.length)) y13) (st1 := T') (by
      refine Eq.trans ?_ lp
      unfold m_law_heap_drawn_6b3
      have ar : (aC (xV 8) aN) (hE b zs h room st.length at' y2 (some (.int (z : Int))) (some (.int (p : Int))) (some (.int s)) (some (.int e)) (some (.ref T.length)) x13) (T.set b o ++ [.lst []]) = some (.ok [.int (z : Int)], T.set b o ++ [.lst []]) := by simp [hE]
      rw [ev_sFor, ev_iOf, ar, ev_bnd_ok, rng1_small (by omega) (by omega), Int.toNat_natCast, ev_bndS_ok])]
    unfold m_law_heap_drawn_6b4
    have cat : oAdd (.lst [.int hd]) (.ref T.length) T' = some (.lst (iD (hd :: fs)), T') := by
      unfold oAdd
      simp only [lstOf, a3]
      exact if_pos (by rw [iD_length, a4]; exact Nat.le_of_lt (fitz' (by simp; omega)))
    have gh := g_law_header s e (z : Int) T'
    rw [← hdv] at gh
    have v1 : (x2 oAdd (xVal (xLst (aC (xCl 3 G_law_header (aC (xV 10) (aC (xV 11) (aC (xV 8) aN)))) aN))) (xV 12)) (hE b zs h room st.length at' y2 (some (.int (z : Int))) (some (.int (p : Int))) (some (.int s)) (some (.int e)) (some (.ref T.length)) y13) T' = some (.ok (.lst (iD (hd :: fs))), T') := by
      generalize iD (hd :: fs) = CC at *
      simp [hE, gh, cat, sizeLine_eq]
    rw [ev_sAsg, v1, ev_bndS_ok]
    have ec : (p : Int) + 1 + (z : Int) = ((p + 1 + z : Nat) : Int) := by omega
    rw [ev_gSl (o := .ref st.length) (a := (p : Int)) (c := ((p + 1 + z : Nat) : Int)) (st1 := T') (st2 := T') (st3 := T') rfl rfl (by rw [← ec]; simp [hE]), put]
    rfl
  · rw [List.length_set]
    have := (List.getElem?_eq_some_iff.mp a3).1
    omega
  · intro f hf
    rcases List.mem_cons.mp hf with z' | z'
    · rw [z']; unfold sml; omega
    · exact (a5 f z').2
end
end K69
end FW

set_option maxHeartbeats 4000000
namespace FW
namespace K69
open PySem L2

def nI (Z : List Nat) : List Int := Z.map fun (z : Nat) => (z : Int)
def begs (lo : Nat) : List Nat → List Nat
  | [] => []
  | z :: Z => lo :: begs (lo + 1 + z) Z
theorem begs_len {Z : List Nat} : ∀ {lo : Nat}, (begs lo Z).length = Z.length := by
  induction Z with
  | nil => intro lo; rfl
  | cons z Z ih => intro lo; simp only [begs, List.length_cons, ih]
def tz (Z : List Nat) : Nat := (Z.map (1 + ·)).sum
theorem begs_lt {Z : List Nat} : ∀ {lo a : Nat}, a ∈ begs lo Z → a < lo + tz Z := by
  induction Z with
  | nil => intro lo a h; simp [begs] at h
  | cons z Z ih =>
    intro lo a h
    simp only [begs, List.mem_cons] at h
    simp only [tz, List.map_cons, List.sum_cons]
    rcases h with h | h
    · omega
    · have := ih h
      unfold tz at this
      omega
theorem starts_begs : ∀ {Cs : List (List Int)} {Z : List Nat} {lo : Nat}, Cs.map List.length = Z.map (1 + ·) → starts lo Cs = begs lo Z ∧ Cs.flatten.length = tz Z
  | [], [], _, _ => ⟨rfl, rfl⟩
  | [], _ :: _, _, h => by simp at h
  | _ :: _, [], _, h => by simp at h
  | c :: Cs, z :: Z, lo, h => by
    simp only [List.map_cons, List.cons.injEq] at h
    obtain ⟨i1, i2⟩ := starts_begs (lo := lo + c.length) h.2
    refine ⟨?_, ?_⟩
    · simp only [starts, begs, i1]
      rw [h.1, Nat.add_assoc]
    · simp only [List.flatten_cons, List.length_append, i2, h.1, tz, List.map_cons, List.sum_cons]
section
variable {st : Store} {b : Nat}
theorem hobjs {h room at' lo : Nat} {zs : List Int} {y2 : Option D} {P : List Nat} {ds0 : List D} (P1 : P.length < 100000) (Ps : ∀ a ∈ P, a < 100000) (hr2 : room ≤ 2900) : ∀ (Z : List Nat) (W : List Int) (T : Store) (x8 x9 x10 x11 x12 x13 : Option D), Frm st b T → T[st.length]? = some (.lst (iD (newH room lo W))) → T[st.length + 1]? = some (.lst (nD P)) → st.length + 2 ≤ T.length → (Z ≠ [] → 0 < P.length) → (∀ z ∈ Z, z ≤ 3) → lo + W.length + tz Z ≤ 2 * room →
    ∃ (Cs : List (List Int)) (T' : Store) (y8 y9 y10 y11 y12 y13 : Option D), forL ⟨ds0, [(st.length + 1, nD P)]⟩ (gT 2 (gsC (gN 9) (gsC (gN 8) gsN))) b_law_heap_drawn_6b (zipD (nD (begs (lo + W.length) Z)) (iD (nI Z))) (hE b zs h room st.length at' y2 x8 x9 x10 x11 x12 x13) T = some (.nx (hE b zs h room st.length at' y2 y8 y9 y10 y11 y12 y13), T') ∧
      Frm st b T' ∧ T'[st.length]? = some (.lst (iD (newH room lo (W ++ Cs.flatten)))) ∧ T'[st.length + 1]? = some (.lst (nD P)) ∧ (∀ c ∈ Cs, Chk P c) ∧ Cs.map List.length = Z.map (1 + ·)
  | [], W, T, x8, x9, x10, x11, x12, x13, F, hX, hP, T2, _, _, _ => ⟨[], T, x8, x9, x10, x11, x12, x13, by
    rw [show zipD (nD (begs (lo + W.length) [])) (iD (nI [])) = [] from rfl, ev_for_nil (fun p hp => by simp at hp; subst hp; exact .inl hP)], F, by simpa using hX, hP, by simp, rfl⟩
  | z :: Z, W, T, x8, x9, x10, x11, x12, x13, F, hX, hP, T2, P0, hz, hr => by
    have tzc : tz (z :: Z) = 1 + z + tz Z := by simp [tz]
    obtain ⟨c, T1, y10, y11, y12, y13, body, F1, a1, a2, a3, a4, a5⟩ := hobj (st := st) (b := b) (zs := zs) (h := h) (room := room) (at' := at') (y2 := y2) (x10 := x10) (x11 := x11) (x12 := x12) (x13 := x13) (lo := lo) (p := lo + W.length) (z := z) F hX hP T2 (P0 (by simp)) P1 Ps (hz z (by simp)) rfl (by omega) hr2
    obtain ⟨Cs, T', z8, z9, z10, z11, z12, z13, e, F', b1, b2, b3, b4⟩ := hobjs (zs := zs) (h := h) (at' := at') (y2 := y2) (ds0 := ds0) P1 Ps hr2 Z (W ++ c) T1 (some (.int (z : Int))) (some (.int ((lo + W.length : Nat) : Int))) y10 y11 y12 y13 F1 a1 a2 a3 (fun _ => P0 (by simp)) (fun x hx => hz x (List.mem_cons_of_mem _ hx)) (by simp only [List.length_append, a5]; omega)
    refine ⟨c :: Cs, T', z8, z9, z10, z11, z12, z13, ?_, F', by rw [b1]; simp, b2, ?_, by simp [a5, b4]⟩
    · rw [show zipD (nD (begs (lo + W.length) (z :: Z))) (iD (nI (z :: Z))) = .tup [.int ((lo + W.length : Nat) : Int), .int (z : Int)] :: zipD (nD (begs (lo + W.length + 1 + z) Z)) (iD (nI Z)) from rfl]
      rw [ev_for_cons (fun p hp => by simp at hp; subst hp; exact .inl hP) (e1 := hE b zs h room st.length at' y2 (some (.int (z : Int))) (some (.int ((lo + W.length : Nat) : Int))) x10 x11 x12 x13) (st1 := T) rfl body]
      rw [show lo + W.length + 1 + z = lo + (W ++ c).length by rw [List.length_append, a5]; omega]
      exact e
    · intro d hd
      rcases List.mem_cons.mp hd with q | q
      · rw [q]; exact a4
      · exact b3 d q
theorem hplaces {h room : Nat} {zs : List Int} {y2 x9 x10 x11 x12 x13 : Option D} {X : List Int} {ds0 : List D} : ∀ (Z : List Nat) (at' : Nat) (P : List Nat) (T : Store) (x8 : Option D), Frm st b T → T[st.length]? = some (.lst (iD X)) → T[st.length + 1]? = some (.lst (nD P)) → P.length + Z.length < 1000 →
    ∃ T' y8, forL ⟨ds0, []⟩ (gN 8) b_law_heap_drawn_5b (iD (nI Z)) (hE b zs h room st.length at' y2 x8 x9 x10 x11 x12 x13) T = some (.nx (hE b zs h room st.length (at' + tz Z) y2 y8 x9 x10 x11 x12 x13), T') ∧
      Frm st b T' ∧ T'[st.length]? = some (.lst (iD X)) ∧ T'[st.length + 1]? = some (.lst (nD (P ++ begs at' Z))) ∧ T'.length = T.length
  | [], at', P, T, x8, F, hX, hP, _ => ⟨T, x8, by rw [show iD (nI []) = [] from rfl, ev_for_nil hold_none]; simp [tz], F, hX, by simpa [begs] using hP, rfl⟩
  | z :: Z, at', P, T, x8, F, hX, hP, hl => by
    simp only [List.length_cons] at hl
    have ql : st.length + 1 < T.length := (List.getElem?_eq_some_iff.mp hP).1
    obtain ⟨T', y8, e, F', a1, a2, a3⟩ := hplaces (h := h) (room := room) (zs := zs) (y2 := y2) (x9 := x9) (x10 := x10) (x11 := x11) (x12 := x12) (x13 := x13) (X := X) (ds0 := ds0) Z (at' + 1 + z) (P ++ [at']) (T.set (st.length + 1) (.lst (nD (P ++ [at'])))) (some (.int (z : Int))) (F.setq (by omega)) (by rw [List.getElem?_set_ne (by omega)]; exact hX) (ev_set_get ql) (by simp; omega)
    refine ⟨T', y8, ?_, F', a1, by rw [a2]; simp [begs], by rw [a3, List.length_set]⟩
    have ap := app_ref (d := .int (at' : Int)) hP (by rw [nD_len]; exact fitz' (by omega))
    rw [show nD P ++ [.int (at' : Int)] = nD (P ++ [at']) by simp [nD]] at ap
    have ty := tyL_ref hP
    rw [show iD (nI (z :: Z)) = .int (z : Int) :: iD (nI Z) from rfl]
    rw [ev_for_cons hold_none (e1 := hE b zs h room st.length at' y2 (some (.int (z : Int))) x9 x10 x11 x12 x13) (st1 := T) (e2 := hE b zs h room st.length (at' + 1 + z) y2 (some (.int (z : Int))) x9 x10 x11 x12 x13) (st2 := T.set (st.length + 1) (.lst (nD (P ++ [at'])))) rfl (by
      unfold b_law_heap_drawn_5b
      rw [ev_sSeq (e1 := hE b zs h room st.length at' y2 (some (.int (z : Int))) x9 x10 x11 x12 x13) (st1 := T.set (st.length + 1) (.lst (nD (P ++ [at'])))) (by simp [m_law_heap_drawn_5b1, hE, ty, ap])]
      generalize T.set (st.length + 1) (.lst (nD (P ++ [at']))) = T1 at *
      have : ((at' : Nat) : Int) + (1 + (z : Int)) = ((at' + 1 + z : Nat) : Int) := by omega
      simp only [m_law_heap_drawn_5b2, hE]
      rw [ev_sAug (x := .int (at' : Int)) rfl]
      simp [fIp]
      omega)]
    rw [e]
    rw [show at' + 1 + z + tz Z = at' + tz (z :: Z) by simp [tz]; omega]
/-- the sizes are drawn -/
theorem hsizes {y1 y2 : Option D} {r : List (Option D)} {ds0 : List D} : ∀ (ds : List D) (acc : List Int) (T : Store), Frm st b T → acc.length + ds.length < 1000 →
    ∃ Z o, BagOb o ∧ lcL ⟨ds0, []⟩ (gN 2) xYes (xCl 2 G_law_take (aC (xV 0) (aC (xC (.int 4)) aN))) (some (.ref b) :: y1 :: y2 :: r) ds (iD acc) T = some (.ok (.lst (iD (acc ++ nI Z))), T.set b o) ∧ Z.length = ds.length ∧ ∀ z ∈ Z, z ≤ 3
  | [], acc, T, F, _ => by
    obtain ⟨o, ho, bo⟩ := F.bag
    refine ⟨[], o, bo, ?_, rfl, by simp⟩
    rw [lcL, if_pos hold_none]
    have same : T.set b o = T := by
      apply List.ext_getElem?
      intro i
      rw [List.getElem?_set]
      split
      · rename_i hi; subst hi; rw [if_pos (List.getElem?_eq_some_iff.mp ho).1, ho]
      · rfl
    rw [same]
    simp [nI]
  | d :: ds, acc, T, F, hl => by
    simp only [List.length_cons] at hl
    obtain ⟨v, o, g, v0, v4, bo⟩ := g_take F.bag (m := 4) (by omega) (by omega)
    obtain ⟨Z, o2, bo2, e, zl, zs⟩ := hsizes (y1 := y1) (y2 := y2) (r := r) (ds0 := ds0) ds (acc ++ [v]) (T.set b o) (F.setb bo) (by simp; omega)
    rw [List.set_set] at e
    refine ⟨v.toNat :: Z, o2, bo2, ?_, by simp [zl], fun z hz => ?_⟩
    · rw [lcL, if_pos hold_none]
      simp only [ev_gN, ev_xYes]
      have el : (xCl 2 G_law_take (aC (xV 0) (aC (xC (.int 4)) aN))) ((some (.ref b) :: y1 :: y2 :: r).set 2 (some d)) T = some (.ok (.int v), T.set b o) := by simp [g]
      simp only [el]
      rw [if_pos (by rw [iD_length]; exact fitz' (by omega)), show iD acc ++ [D.int v] = iD (acc ++ [v]) by simp, e]
      have e2 : acc ++ [v] ++ nI Z = acc ++ nI (v.toNat :: Z) := by
        simp only [nI, List.map_cons, List.append_assoc, List.singleton_append]
        rw [show ((v.toNat : Nat) : Int) = v by omega]
      rw [e2]
    · rcases List.mem_cons.mp hz with q | q
      · rw [q]; omega
      · exact zs z q
end
end K69
end FW

set_option maxHeartbeats 4000000
namespace FW
namespace K69
open PySem L2

theorem sum_nI {Z : List Nat} : (nI Z).sum + (Z.length : Int) = (tz Z : Nat) := by
  induction Z with
  | nil => rfl
  | cons z Z ih =>
    simp only [nI] at ih
    simp only [nI, tz, List.map_cons, List.sum_cons, List.length_cons] at ih ⊢
    omega
theorem Cut.frm {st T : Store} {b : Nat} (wf : Wf st) (F : Frm st b T) : ∃ o, BagOb o ∧ Cut T st.length (st.set b o) := by
  obtain ⟨h1, h2, o, bo, e⟩ := F
  refine ⟨o, bo, Cut.of st.length (by simp) e ?_⟩
  intro x hx
  rw [List.length_set]
  rcases List.mem_or_eq_of_mem_set hx with z | z
  · exact wf x z
  · rw [z]
    obtain ⟨g, s, p, cells, rfl, _⟩ := bo
    simp only [bagO, LtO, Lts, Lt, and_self, true_and]
    exact ⟨lts_iD, trivial⟩
theorem g_heap_drawn {st : Store} {b : Nat} (h : Bag st b) (wf : Wf st) :
    ∃ (hs : List Int) (P : List Nat) (room hf : Nat) (o : Ob), BagOb o ∧ G_law_heap_drawn [.ref b] st = some (.tup [.tup (iD hs), .int room, .int hf, .lst (nD P)], st.set b o) ∧
      hf ≤ 1 ∧ room ≤ 100 ∧ hs.length = 2 * room ∧ P.length ≤ 14 ∧ Good hs (· ∈ P) room ∧ Part hs (room * hf) room (· ∈ P) ∧ (∀ n ∈ hs, sml n) ∧ ∀ a ∈ P, a < 1000 := by
  have F0 := Frm.start h
  -- how many
  obtain ⟨v1, o1, hv1, g1, bo1⟩ := g_someL h (ds := [.int 6, .int 3, .int 14, .int 0, .int 9]) (by simp) (by simp)
  obtain ⟨n, rfl, n14⟩ : ∃ n : Nat, v1 = .int (n : Int) ∧ n ≤ 14 := by
    simp only [List.mem_cons, List.not_mem_nil, or_false] at hv1
    rcases hv1 with rfl | rfl | rfl | rfl | rfl
    · exact ⟨6, rfl, by omega⟩
    · exact ⟨3, rfl, by omega⟩
    · exact ⟨14, rfl, by omega⟩
    · exact ⟨0, rfl, by omega⟩
    · exact ⟨9, rfl, by omega⟩
  have F1 := F0.setb bo1
  obtain ⟨Z, o2, bo2, e2, zl, z3⟩ := hsizes (y1 := none) (y2 := none) (r := [none, none, none, none, none, none, none, none, none, none, none]) (ds0 := rngD 0 n) (rngD 0 n) [] (st.set b o1) F1 (by simp [rngD]; omega)
  rw [List.set_set] at e2
  simp only [List.nil_append] at e2
  have zl' : Z.length = n := by rw [zl]; simp [rngD]
  have F2 := F0.setb bo2
  obtain ⟨v3, o3, g3, h0, h1, bo3⟩ := g_take F2.bag (m := 2) (by omega) (by omega)
  rw [List.set_set] at g3
  obtain ⟨hf, rfl⟩ : ∃ k : Nat, v3 = (k : Int) := ⟨v3.toNat, by omega⟩
  have F3 := F0.setb bo3
  obtain ⟨v4, o4, hv4, g4, bo4⟩ := g_someL F3.bag (ds := [.int 0, .int 0, .int 3, .int 20]) (by simp) (by simp)
  rw [List.set_set] at g4
  obtain ⟨x, rfl, x20⟩ : ∃ n : Nat, v4 = .int (n : Int) ∧ n ≤ 20 := by
    simp only [List.mem_cons, List.not_mem_nil, or_false] at hv4
    rcases hv4 with rfl | rfl | rfl | rfl
    · exact ⟨0, rfl, by omega⟩
    · exact ⟨0, rfl, by omega⟩
    · exact ⟨3, rfl, by omega⟩
    · exact ⟨20, rfl, by omega⟩
  have F4 := F0.setb bo4
  have tzl : tz Z ≤ 4 * Z.length := by
    clear e2 zl zl'
    induction Z with
    | nil => simp [tz]
    | cons z Z ih =>
      have := ih fun y hy => z3 y (List.mem_cons_of_mem _ hy)
      have := z3 z (by simp)
      simp only [tz, List.map_cons, List.sum_cons, List.length_cons] at *
      omega
  have rm : ∃ room, room = tz Z + x := ⟨_, rfl⟩
  obtain ⟨room, hroom⟩ := rm
  have hf1 : hf ≤ 1 := by omega
  have lo_le : room * hf ≤ room := by
    rcases Nat.le_one_iff_eq_zero_or_eq_one.mp hf1 with e | e <;> subst e <;> simp
  -- the two lists
  have lenst : (st.set b o4).length = st.length := List.length_set
  have F5 : Frm st b (st.set b o4 ++ [.lst (iD (newH room (room * hf) []))] ++ [.lst (nD [])]) := F4.push.push
  have hX5 : (st.set b o4 ++ [Ob.lst (iD (newH room (room * hf) []))] ++ [.lst (nD [])])[st.length]? = some (.lst (iD (newH room (room * hf) []))) := by
    rw [List.append_assoc, ← lenst]; exact at0
  have hP5 : (st.set b o4 ++ [Ob.lst (iD (newH room (room * hf) []))] ++ [.lst (nD [])])[st.length + 1]? = some (.lst (nD [])) := by
    rw [List.append_assoc, ← lenst]; exact at1
  obtain ⟨T6, y8, e6, F6, a1, a2, a3⟩ := hplaces (st := st) (b := b) (h := hf) (room := room) (zs := nI Z) (y2 := none) (x9 := none) (x10 := none) (x11 := none) (x12 := none) (x13 := none) (X := newH room (room * hf) []) (ds0 := iD (nI Z)) Z (room * hf) [] _ none F5 hX5 hP5 (by simp; omega)
  rw [List.nil_append] at a2
  have Plen : (begs (room * hf) Z).length = n := by rw [begs_len, zl']
  have Plt : ∀ a ∈ begs (room * hf) Z, a < 1000 := fun a ha => by have := begs_lt ha; omega
  obtain ⟨Cs, T7, z8, z9, z10, z11, z12, z13, e7, F7, b1, b2, b3, b4⟩ := hobjs (st := st) (b := b) (h := hf) (room := room) (at' := room * hf + tz Z) (lo := room * hf) (zs := nI Z) (y2 := none) (P := begs (room * hf) Z) (ds0 := zipD (nD (begs (room * hf) Z)) (iD (nI Z))) (by omega) (fun a ha => by have := Plt a ha; omega) (by omega) Z [] T6 y8 none none none none none F6 a1 a2 (by rw [a3]; simp [lenst]) (fun hz => by rw [Plen, ← zl']; exact List.length_pos_iff.mpr hz) z3 (by simp; omega)
  rw [List.nil_append] at b1
  rw [List.length_nil, Nat.add_zero] at e7
  obtain ⟨sb, fl⟩ := starts_begs (lo := room * hf) b4
  rw [← sb] at b3
  obtain ⟨G, Pt⟩ := good_chunks (room := room) (lo := room * hf) b3 (by rw [fl]; omega) (by omega)
  rw [sb] at G Pt
  obtain ⟨o7, bo7, cut⟩ := Cut.frm wf F7
  refine ⟨newH room (room * hf) Cs.flatten, begs (room * hf) Z, room, hf, o7, bo7, ?_, hf1, by omega, newH_len (by rw [fl]; omega), by omega, G, Pt, newH_sml fun c hc => ?_, Plt⟩
  · have Fr : F_law_heap_drawn [.ref b] st = some (.tup [.tup (iD (newH room (room * hf) Cs.flatten)), .int room, .int hf, .ref (st.length + 1)], T7) := by
      refine runF_rt ?_
      unfold m_law_heap_drawn
      rw [show env0 14 [.ref b] = [some (.ref b), none, none, none, none, none, none, none, none, none, none, none, none, none] from rfl]
      rw [ev_sSeq (e1 := [some (.ref b), some (.lst (iD (nI Z))), none, none, none, none, none, none, none, none, none, none, none, none]) (st1 := st.set b o2) (by
        unfold m_law_heap_drawn_1
        have ar : (aC (xCl 2 G_law_some (aC (xV 0) (aC (xVal (xLst (aC (xC (.int 6)) (aC (xC (.int 3)) (aC (xC (.int 14)) (aC (xC (.int 0)) (aC (xC (.int 9)) aN))))))) aN))) aN) [some (.ref b), none, none, none, none, none, none, none, none, none, none, none, none, none] st = some (.ok [.int (n : Int)], st.set b o1) := by simp [sizeLine_eq, g1]
        rw [ev_sAsg, ev_xVal, ev_xLc, ev_iOf, ar, ev_bnd_ok, rng1_small (by omega) (by omega), Int.toNat_natCast, ev_bnd_ok]
        rw [show wipeE [some (.ref b), none, none, none, none, none, none, none, none, none, none, none, none, none] [2] = [some (.ref b), none, none, none, none, none, none, none, none, none, none, none, none, none] from rfl]
        rw [show ([] : List D) = iD [] from rfl, e2]
        rfl)]
      rw [ev_sSeq (e1 := [some (.ref b), some (.lst (iD (nI Z))), none, some (.int hf), none, none, none, none, none, none, none, none, none, none]) (st1 := st.set b o3) (by simp [m_law_heap_drawn_2, g3])]
      have sm : fSum [.lst (iD (nI Z))] (st.set b o3) = some (.int (nI Z).sum, st.set b o3) := by simp [fSum, rd_L]
      have ln : fLen [.lst (iD (nI Z))] (st.set b o3) = some (.int Z.length, st.set b o3) := by rw [fLen_seq (show seqOf (.lst (iD (nI Z))) _ = some (iD (nI Z)) from rfl), iD_length]; simp [nI]
      rw [ev_sSeq (e1 := [some (.ref b), some (.lst (iD (nI Z))), none, some (.int hf), some (.int room), none, none, none, none, none, none, none, none, none]) (st1 := st.set b o4) (by
        have := sum_nI (Z := Z)
        generalize iD (nI Z) = NZ at *
        simp [m_law_heap_drawn_3, sm, ln, sizeLine_eq, g4]
        omega)]
      have z2 : ∀ S : Store, oMul (.int 2) (.int (room : Int)) S = some (.int ((2 * room : Nat) : Int), S) := fun S => by rw [ev_mulI (by omega)]; simp
      have z3' : ∀ S : Store, oMul (.int (hf : Int)) (.int (room : Int)) S = some (.int ((room * hf : Nat) : Int), S) := fun S => by rw [ev_mulI (by omega), Int.mul_comm]; simp
      have rp := fun S : Store => ev_pRep (k := ((2 * room : Nat) : Int)) (n := 2 * room) (st := S) rfl (by omega)
      have nH : newH room (room * hf) [] = List.replicate (2 * room) 0 := by
        unfold newH
        simp only [List.append_nil, List.length_nil, List.replicate_append_replicate]
        congr 1
        omega
      rw [← nH] at rp
      rw [ev_sSeq (e1 := hE b (nI Z) hf room st.length (room * hf) none none none none none none none) (st1 := st.set b o4 ++ [.lst (iD (newH room (room * hf) []))] ++ [.lst (nD [])]) (by
        generalize ((2 * room : Nat) : Int) = R2 at *
        generalize newH room (room * hf) [] = NH at *
        unfold hE
        generalize ((room * hf : Nat) : Int) = RH at *
        simp [m_law_heap_drawn_4, z2, z3', rp, sizeLine_eq, nD])]
      rw [ev_sSeq (e1 := hE b (nI Z) hf room st.length (room * hf + tz Z) none y8 none none none none none) (st1 := T6) (by
        refine Eq.trans ?_ e6
        unfold m_law_heap_drawn_5
        rw [ev_sFor, ev_iSeq, show xV 1 (hE b (nI Z) hf room st.length (room * hf) none none none none none none none) (st.set b o4 ++ [.lst (iD (newH room (room * hf) []))] ++ [.lst (nD [])]) = some (.ok (.lst (iD (nI Z))), st.set b o4 ++ [.lst (iD (newH room (room * hf) []))] ++ [.lst (nD [])]) from rfl, ev_bnd_ok]
        rfl)]
      rw [ev_sSeq (e1 := hE b (nI Z) hf room st.length (room * hf + tz Z) none z8 z9 z10 z11 z12 z13) (st1 := T7) (by
        refine Eq.trans ?_ e7
        unfold m_law_heap_drawn_6
        have ar : (aC (xV 6) (aC (xV 1) aN)) (hE b (nI Z) hf room st.length (room * hf + tz Z) none y8 none none none none none) T6 = some (.ok [.ref (st.length + 1), .lst (iD (nI Z))], T6) := by simp [hE]
        have zp : zipI [.ref (st.length + 1), .lst (iD (nI Z))] T6 = some ⟨zipD (nD (begs (room * hf) Z)) (iD (nI Z)), [(st.length + 1, nD (begs (room * hf) Z))]⟩ := by
          simp [zipI, itV, a2, isTup]
        rw [ev_sFor, ev_iOf, ar, ev_bnd_ok, zp, ev_bndS_ok]
        rfl)]
      have tp : fTuple [.ref st.length] T7 = some (.tup (iD (newH room (room * hf) Cs.flatten)), T7) := by simp [fTuple, rdlOf, b1]
      simp [m_law_heap_drawn_7, hE, tp, sizeLine_eq]
    have lb : Lts st.length (nD (begs (room * hf) Z)) := by rw [nD_iD]; exact lts_iD
    exact tell_of Fr cut (.tup (.cons (.tup (Fzs.refl lts_iD)) (.cons (.int _) (.cons (.int _) (.cons (.olst (by omega) b2 (Fzs.refl lb)) .nil)))))
  · obtain ⟨w, fs, _, _, _, _, _, hsm⟩ := b3 c hc
    exact hsm
end K69
end FW

set_option maxHeartbeats 4000000
namespace FW
namespace K69
open PySem L2

/-! ### the chain, in the plain -/
theorem chunk_fls {pre post : List Int} {lo : Nat} {cs a b : List (List Int)} {w : Int} {fs : List Int} (hlo : pre.length = lo) (hm : (w / 10 % 256).toNat = fs.length) (e : cs = a ++ (w :: fs) :: b) :
    fls (pre ++ cs.flatten ++ post) (lo + a.flatten.length) = fs ∧ siz (pre ++ cs.flatten ++ post) (lo + a.flatten.length) = 1 + fs.length ∧ hdr (pre ++ cs.flatten ++ post) (lo + a.flatten.length) = w := by
  have sp : pre ++ cs.flatten ++ post = (pre ++ a.flatten) ++ (w :: (fs ++ (b.flatten ++ post))) := by rw [e]; simp
  have pl : (pre ++ a.flatten).length = lo + a.flatten.length := by rw [List.length_append, hlo]
  have get : (pre ++ cs.flatten ++ post)[lo + a.flatten.length]? = some w := by rw [sp, ← pl]; simp
  have mn : mny (pre ++ cs.flatten ++ post) (lo + a.flatten.length) = fs.length := by
    unfold mny
    rw [List.getD_eq_getElem?_getD, get]
    exact hm
  refine ⟨?_, by unfold siz; rw [mn], by unfold hdr; rw [List.getD_eq_getElem?_getD, get]; rfl⟩
  unfold fls
  rw [mn, sp, ← pl, ← List.drop_drop, List.drop_left, List.drop_one, List.tail_cons, List.take_left]
def chH (k : Nat) : Int := 2 * (5 * (256 * (k : Int) + 1) + 3) + 1
def chN (many k : Nat) : Int := if k + 1 < many then 4 * ((k : Int) + 1) else 11
def chC (many : Nat) : List (List Int) := (List.range many).map fun k => [chH k, chN many k]
def evens (n : Nat) : List Nat := (List.range n).map fun k => 2 * k
theorem flat2 {f : Nat → List Int} (hf : ∀ k, (f k).length = 2) : ∀ n, (((List.range n).map f).flatten).length = 2 * n
  | 0 => rfl
  | n + 1 => by
    rw [List.range_succ, List.map_append, List.flatten_append, List.length_append, flat2 hf n]
    simp [hf]
    omega
theorem ch_split {many k : Nat} (h : k < many) : ∃ b, chC many = (List.range k).map (fun k => [chH k, chN many k]) ++ [chH k, chN many k] :: b := by
  refine ⟨((List.range many).drop (k + 1)).map fun k => [chH k, chN many k], ?_⟩
  have : List.range many = List.range k ++ k :: (List.range many).drop (k + 1) := by
    have e := List.take_append_drop k (List.range many)
    rw [List.drop_eq_getElem_cons (by simpa using h)] at e
    rw [List.take_range, Nat.min_eq_left (by omega), List.getElem_range] at e
    exact e.symm
  unfold chC
  conv => lhs; rw [this]
  rw [List.map_append, List.map_cons]
theorem ch_at {many k : Nat} (h : k < many) (post : List Int) : fls ((chC many).flatten ++ post) (2 * k) = [chN many k] ∧ siz ((chC many).flatten ++ post) (2 * k) = 2 ∧ hdr ((chC many).flatten ++ post) (2 * k) = chH k := by
  obtain ⟨b, e⟩ := ch_split h
  have := chunk_fls (pre := []) (post := post) (lo := 0) (w := chH k) (fs := [chN many k]) rfl (by unfold chH; simp; omega) e
  rw [flat2 (fun _ => rfl), Nat.zero_add, List.nil_append] at this
  exact this
theorem ch_starts {many : Nat} : starts 0 (chC many) = evens many := by
  have : ∀ (n lo : Nat) (f : Nat → List Int), (∀ k, (f k).length = 2) → starts lo ((List.range n).map f) = (List.range n).map fun k => lo + 2 * k := by
    intro n
    induction n with
    | zero => intro lo f _; rfl
    | succ n ih =>
      intro lo f hf
      rw [List.range_succ, List.map_append, List.map_append, starts_app, ih lo f hf, flat2 hf]
      simp [starts]
  unfold chC evens
  rw [this many 0 _ (fun _ => rfl)]
  simp
theorem ev_mem {n k : Nat} (h : k < n) : 2 * k ∈ evens n := by unfold evens; rw [List.mem_map]; exact ⟨k, by simpa using h, rfl⟩
theorem ch_good {many : Nat} (hm : many ≤ 1000) : Good (newH (2 * many) 0 (chC many).flatten) (· ∈ evens many) (2 * many) ∧ Part (newH (2 * many) 0 (chC many).flatten) 0 (2 * many) (· ∈ evens many) := by
  have g := good_chunks (room := 2 * many) (lo := 0) (cs := chC many) (fun c hc => ?_) (by unfold chC; rw [flat2 (fun _ => rfl)]; omega) (by omega)
  · rw [ch_starts] at g; exact g
  · unfold chC at hc
    obtain ⟨k, hk, rfl⟩ := List.mem_map.mp hc
    have hk' : k < many := by simpa using hk
    rw [ch_starts]
    refine ⟨chH k, [chN many k], rfl, by unfold chH; omega, by unfold chH; omega, by unfold chH; simp; omega, fun f hf => ?_, fun f hf => ?_⟩
    · simp only [List.mem_singleton] at hf
      subst hf
      unfold chN
      split
      · exact .inr ⟨2 * (k + 1), by omega, ev_mem (by assumption)⟩
      · exact .inl (by omega)
    · simp only [List.mem_cons, List.not_mem_nil, or_false] at hf
      rcases hf with rfl | rfl
      · unfold sml chH; omega
      · unfold sml chN; split <;> omega
theorem ev_succ {n : Nat} : evens (n + 1) = evens n ++ [2 * n] := by simp [evens, List.range_succ]
theorem ev_notin {n : Nat} : 2 * n ∉ evens n := by
  unfold evens
  intro h
  obtain ⟨k, hk, e⟩ := List.mem_map.mp h
  have : k < n := by simpa using hk
  omega
theorem ch_scan {many : Nat} {post : List Int} : ∀ (d k : Nat), k + 1 + d = many → Scan ((chC many).flatten ++ post) k (evens (k + 1)) (evens many)
  | 0, k, h => by
    have e : k + 1 = many := h
    rw [e]
    refine .step (a := 2 * k) (by rw [← e, ev_succ]; simp [evens]) ?_
    rw [(ch_at (by omega) post).1]
    have : places (evens many) [chN many k] = evens many := by
      rw [places_cons, places_nil]
      unfold place chN
      rw [if_neg (by omega : ¬ k + 1 < many), if_pos (by omega)]
    rw [this]
    exact .done (by simp [evens]; omega)
  | d + 1, k, h => by
    refine .step (a := 2 * k) (by rw [ev_succ]; simp [evens]) ?_
    rw [(ch_at (by omega) post).1]
    have : places (evens (k + 1)) [chN many k] = evens (k + 1 + 1) := by
      rw [places_cons, places_nil]
      have e : chN many k = 2 * ((2 * (k + 1) : Nat) : Int) := by unfold chN; rw [if_pos (by omega)]; omega
      rw [e]
      unfold place
      rw [if_neg (by omega), wA2, if_neg ev_notin, ← ev_succ]
    rw [this]
    exact ch_scan d (k + 1) (by omega)
end K69
end FW

set_option maxHeartbeats 4000000
namespace FW
namespace K69
open PySem L2

section
variable {many : Nat}
def chF (many k : Nat) : List Int := ((List.range k).map fun k => [chH k, chN many k]).flatten
def dN (many k : Nat) : Int := if k + 1 < many then 4 * (many : Int) + 4 * ((k : Int) + 1) else 11
def chD (many k : Nat) : List Int := ((List.range k).map fun k => [chH k, dN many k]).flatten
theorem chF_len {k : Nat} : (chF many k).length = 2 * k := flat2 (fun _ => rfl) k
theorem chD_len {k : Nat} : (chD many k).length = 2 * k := flat2 (fun _ => rfl) k
theorem chF_succ {k : Nat} : chF many (k + 1) = chF many k ++ [chH k, chN many k] := by simp [chF, List.range_succ]
theorem chD_succ {k : Nat} : chD many (k + 1) = chD many k ++ [chH k, dN many k] := by simp [chD, List.range_succ]
theorem ch_heap : newH (2 * many) 0 (chC many).flatten = chF many many ++ List.replicate (2 * many) 0 := by
  have e : (chC many).flatten = chF many many := rfl
  unfold newH
  rw [e, chF_len]
  simp only [List.replicate_zero, List.nil_append]
  congr 2
  omega
def chHs (many : Nat) : List Int := chF many many ++ List.replicate (2 * many) 0
theorem ch_atH {k : Nat} (h : k < many) : fls (chHs many) (2 * k) = [chN many k] ∧ siz (chHs many) (2 * k) = 2 ∧ hdr (chHs many) (2 * k) = chH k := ch_at h _
theorem ch_tot : ∀ {j : Nat}, j ≤ many → tot (chHs many) (evens j) = 2 * j
  | 0, _ => rfl
  | j + 1, h => by
    rw [ev_succ, tot_app, ch_tot (by omega)]
    simp only [tot, List.map_cons, List.map_nil, List.sum_cons, List.sum_nil, (ch_atH (many := many) (k := j) (by omega)).2.1]
    omega
theorem ev_split {j : Nat} (h : j < many) : ∃ r, evens many = evens j ++ 2 * j :: r := by
  obtain ⟨r, e⟩ : ∃ r, List.range many = List.range j ++ j :: r := by
    refine ⟨(List.range many).drop (j + 1), ?_⟩
    have e := List.take_append_drop j (List.range many)
    rw [List.drop_eq_getElem_cons (by simpa using h)] at e
    rw [List.take_range, Nat.min_eq_left (by omega), List.getElem_range] at e
    exact e.symm
  exact ⟨r.map fun k => 2 * k, by unfold evens; rw [e]; simp⟩
theorem ch_off {j : Nat} (h : j < many) : off (chHs many) (evens many) (2 * j) = 2 * j := by
  obtain ⟨r, e⟩ := ev_split h
  rw [e, off_new ev_notin, ch_tot (by omega)]
theorem ch_rows : rows (chHs many) (2 * many) (evens many) (evens many) = chD many many := by
  have : ∀ l : List Nat, (∀ k ∈ l, k < many) → rows (chHs many) (2 * many) (evens many) (l.map fun k => 2 * k) = (l.map fun k => [chH k, dN many k]).flatten := by
    intro l
    induction l with
    | nil => intro _; rfl
    | cons k l ih =>
      intro h
      have hk := h k (by simp)
      obtain ⟨f1, _, f3⟩ := ch_atH hk
      have e : row (chHs many) (2 * many) (evens many) (2 * k) = [chH k, dN many k] := by
        unfold row
        rw [f1, f3]
        simp only [List.map_cons, List.map_nil, List.cons.injEq, true_and, and_true]
        unfold fwd chN dN
        by_cases c : k + 1 < many
        · rw [if_pos c, if_pos c, if_neg (by omega), show wA (4 * ((k : Int) + 1)) = 2 * (k + 1) by unfold wA; omega, ch_off c]
          omega
        · rw [if_neg c, if_neg c, if_pos (by omega)]
      have i := ih fun x hx => h x (List.mem_cons_of_mem _ hx)
      simp only [rows, List.map_cons, List.flatten_cons] at i ⊢
      rw [e, i]
  exact this (List.range many) fun k hk => by simpa using hk
theorem ch_sorted : sN (evens many) = (List.range many).map fun (k : Nat) => (0 : Int) + (k : Int) * 2 := by
  refine sN_only ?_ ?_
  · have e : (evens many).map (fun (a : Nat) => (a : Int)) = (List.range many).map fun (k : Nat) => (0 : Int) + (k : Int) * 2 := by
      unfold evens
      rw [List.map_map]
      refine List.map_congr_left fun k _ => ?_
      simp only [Function.comp_apply]
      omega
    rw [e]
  · rw [List.pairwise_map]
    exact (List.pairwise_lt_range (n := many)).imp fun h => by omega
end
end K69
end FW

set_option maxHeartbeats 4000000
namespace FW
namespace K69
open PySem L2

theorem ev_xTru_bl {m : M D} {b : Bool} {e : Env} {st st1 : Store} (h : m e st = some (.ok (.bl b), st1)) : xTru m e st = some (.ok b, st1) := by unfold xTru; rw [ev_xbnd, h, ev_bnd_ok]; rfl
theorem ev_xNot {m : M Bool} {b : Bool} {e : Env} {st st1 : Store} (h : m e st = some (.ok b, st1)) : xNot m e st = some (.ok !b, st1) := by unfold xNot; rw [ev_xbnd, h, ev_bnd_ok]
theorem ev_catT {a b : List Int} {st : Store} (h : a.length + b.length ≤ 1000000) : oAdd (.tup (iD a)) (.tup (iD b)) st = some (.tup (iD (a ++ b)), st) := by
  have hl : (iD a).length + (iD b).length ≤ sizeLine := by rw [iD_length, iD_length]; exact fitz h
  unfold oAdd
  rw [iD_append]
  exact if_pos hl
theorem ev_repT {n : Nat} {k : Int} {st : Store} (hk : k = (n : Int)) (h : 2 ≤ n) (h2 : n ≤ 1000000) : oMul (.tup [.int 0]) (.int k) st = some (.tup (iD (List.replicate n 0)), st) := by
  subst hk
  have e : oMul (.tup [.int 0]) (.int (n : Int)) st = some (.tup (List.replicate (n : Int).toNat [D.int 0]).flatten, st) := by
    unfold oMul
    exact if_pos ⟨by simp, by omega, by simp; omega⟩
  rw [e, Int.toNat_natCast, rep_iD]
section
variable {st : Store} {many : Nat}
def kE (many n : Nat) (x4 : Option D) : Env := [some (.int (many : Int)), some (.int ((2 * many : Nat) : Int)), some (.ref n), some (.ref (n + 1)), x4]
def kS (many k : Nat) : Store := [.lst (iD (chF many k)), .lst (iD (chD many k))]
theorem kturn {k : Nat} (hk : k < many) (hm : many ≤ 1000) : b_law_is_chain_right_2b (kE many st.length (some (.int (k : Int)))) (st ++ kS many k) = some (.nx (kE many st.length (some (.int (k : Int)))), st ++ kS many (k + 1)) := by
  have h0 : (st ++ kS many k)[st.length]? = some (.lst (iD (chF many k))) := at0
  have e0 := ext_refL (m := [chH k, chN many k]) h0 (fitz (by rw [chF_len]; simp; omega))
  rw [← chF_succ, show (st ++ kS many k).set st.length (.lst (iD (chF many (k + 1)))) = st ++ [.lst (iD (chF many (k + 1))), .lst (iD (chD many k))] from set0] at e0
  have h1 : (st ++ [Ob.lst (iD (chF many (k + 1))), .lst (iD (chD many k))])[st.length + 1]? = some (.lst (iD (chD many k))) := at1
  have e1 := ext_refL (m := [chH k, dN many k]) h1 (fitz (by rw [chD_len]; simp; omega))
  rw [← chD_succ, show (st ++ [Ob.lst (iD (chF many (k + 1))), .lst (iD (chD many k))]).set (st.length + 1) (.lst (iD (chD many (k + 1)))) = st ++ kS many (k + 1) from set1] at e1
  have t0 := tyL_ref h0
  have t1 := tyL_ref h1
  unfold b_law_is_chain_right_2b
  generalize st ++ kS many k = S0 at *
  generalize st ++ [Ob.lst (iD (chF many (k + 1))), .lst (iD (chD many k))] = S1 at *
  generalize st ++ kS many (k + 1) = S2 at *
  have hh : ∀ S : Store, G_law_header [.int 3, .int (k : Int), .int 1] S = some (.int (chH k), S) := fun S => g_law_header 3 (k : Int) 1 S
  have lt : ∀ S : Store, (xTst (x2 oLt (x2 oAdd (xV 4) (xC (.int 1))) (xV 0))) (kE many st.length (some (.int (k : Int)))) S = some (.ok (decide (k + 1 < many)), S) := by
    intro S
    simp [kE]
    omega
  rw [ev_sSeq (e1 := kE many st.length (some (.int (k : Int)))) (st1 := S1) (by
    unfold m_law_is_chain_right_2b1
    have v : (xIf (xTst (x2 oLt (x2 oAdd (xV 4) (xC (.int 1))) (xV 0))) (x2 oMul (xC (.int 4)) (x2 oAdd (xV 4) (xC (.int 1)))) (xC (.int 11))) (kE many st.length (some (.int (k : Int)))) S0 = some (.ok (.int (chN many k)), S0) := by
      unfold chN
      by_cases c : k + 1 < many
      · rw [ev_xIf_t (by rw [lt, decide_eq_true c]), if_pos c]
        simp [kE, ev_mulI]
      · rw [ev_xIf_f (by rw [lt, decide_eq_false c]), if_neg c]
        rfl
    have hd : (xCl 3 G_law_header (aC (xC (.int 3)) (aC (xV 4) (aC (xC (.int 1)) aN)))) (kE many st.length (some (.int (k : Int)))) S0 = some (.ok (.int (chH k)), S0) := by simp [kE, hh]
    have ls : xVal (xLst (aC (xCl 3 G_law_header (aC (xC (.int 3)) (aC (xV 4) (aC (xC (.int 1)) aN)))) (aC (xIf (xTst (x2 oLt (x2 oAdd (xV 4) (xC (.int 1))) (xV 0))) (x2 oMul (xC (.int 4)) (x2 oAdd (xV 4) (xC (.int 1)))) (xC (.int 11))) aN))) (kE many st.length (some (.int (k : Int)))) S0 = some (.ok (.lst (iD [chH k, chN many k])), S0) := by
      rw [ev_xVal, ev_xLst, ev_aC, hd, ev_bnd_ok, ev_aC, v, ev_bnd_ok, ev_aN]
      simp [sizeLine_eq]
    rw [ev_sEx, ev_xMeth, show xV 2 (kE many st.length (some (.int (k : Int)))) S0 = some (.ok (.ref st.length), S0) from rfl, ev_bnd_ok, if_pos t0, ev_aC, ls, ev_bnd_ok, ev_aN, ev_bnd_ok, ev_bnd_ok, e0]
    rfl)]
  unfold m_law_is_chain_right_2b2
  have v : (xIf (xTst (x2 oLt (x2 oAdd (xV 4) (xC (.int 1))) (xV 0))) (x2 oAdd (x2 oMul (xC (.int 2)) (xV 1)) (x2 oMul (xC (.int 4)) (x2 oAdd (xV 4) (xC (.int 1))))) (xC (.int 11))) (kE many st.length (some (.int (k : Int)))) S1 = some (.ok (.int (dN many k)), S1) := by
    unfold dN
    by_cases c : k + 1 < many
    · rw [ev_xIf_t (by rw [lt, decide_eq_true c]), if_pos c]
      simp [kE, ev_mulI]
      omega
    · rw [ev_xIf_f (by rw [lt, decide_eq_false c]), if_neg c]
      rfl
  have hd : (xCl 3 G_law_header (aC (xC (.int 3)) (aC (xV 4) (aC (xC (.int 1)) aN)))) (kE many st.length (some (.int (k : Int)))) S1 = some (.ok (.int (chH k)), S1) := by simp [kE, hh]
  have ls : xVal (xLst (aC (xCl 3 G_law_header (aC (xC (.int 3)) (aC (xV 4) (aC (xC (.int 1)) aN)))) (aC (xIf (xTst (x2 oLt (x2 oAdd (xV 4) (xC (.int 1))) (xV 0))) (x2 oAdd (x2 oMul (xC (.int 2)) (xV 1)) (x2 oMul (xC (.int 4)) (x2 oAdd (xV 4) (xC (.int 1))))) (xC (.int 11))) aN))) (kE many st.length (some (.int (k : Int)))) S1 = some (.ok (.lst (iD [chH k, dN many k])), S1) := by
    rw [ev_xVal, ev_xLst, ev_aC, hd, ev_bnd_ok, ev_aC, v, ev_bnd_ok, ev_aN]
    simp [sizeLine_eq]
  rw [ev_sEx, ev_xMeth, show xV 3 (kE many st.length (some (.int (k : Int)))) S1 = some (.ok (.ref (st.length + 1)), S1) from rfl, ev_bnd_ok, if_pos t1, ev_aC, ls, ev_bnd_ok, ev_aN, ev_bnd_ok, ev_bnd_ok, e1]
  rfl
theorem kloop (hm : many ≤ 1000) {ds0 : List D} : ∀ (d k : Nat) (x4 : Option D), k + d = many → ∃ y4, forL ⟨ds0, []⟩ (gN 4) b_law_is_chain_right_2b (rngD (k : Int) d) (kE many st.length x4) (st ++ kS many k) = some (.nx (kE many st.length y4), st ++ kS many many)
  | 0, k, x4, h => ⟨x4, by
    rw [show rngD (k : Int) 0 = [] from rfl, ev_for_nil hold_none]
    rw [show k = many from h]⟩
  | d + 1, k, x4, h => by
    obtain ⟨y4, e⟩ := kloop hm (ds0 := ds0) d (k + 1) (some (.int (k : Int))) (by omega)
    refine ⟨y4, ?_⟩
    rw [rngD_succ, ev_for_cons hold_none (e1 := kE many st.length (some (.int (k : Int)))) (st1 := st ++ kS many k) rfl (kturn (by omega) hm)]
    rw [show ((k : Int) + 1) = ((k + 1 : Nat) : Int) by omega]
    exact e
end
end K69
end FW

set_option maxHeartbeats 4000000
namespace FW
namespace K69
open PySem L2

theorem chF_sml {many k : Nat} (hm : many ≤ 1000) (hk : k ≤ 1000) : ∀ n ∈ chF many k, sml n := by
  intro n hn
  obtain ⟨c, hc, h⟩ := List.mem_flatten.mp hn
  obtain ⟨j, hj, rfl⟩ := List.mem_map.mp hc
  have hj' : j < k := by simpa using hj
  simp only [List.mem_cons, List.not_mem_nil, or_false] at h
  rcases h with rfl | rfl
  · unfold sml chH; omega
  · unfold sml chN; split <;> omega
theorem chD_sml {many k : Nat} (hm : many ≤ 1000) (hk : k ≤ 1000) : ∀ n ∈ chD many k, sml n := by
  intro n hn
  obtain ⟨c, hc, h⟩ := List.mem_flatten.mp hn
  obtain ⟨j, hj, rfl⟩ := List.mem_map.mp hc
  have hj' : j < k := by simpa using hj
  simp only [List.mem_cons, List.not_mem_nil, or_false] at h
  rcases h with rfl | rfl
  · unfold sml chH; omega
  · unfold sml dN; split <;> omega
theorem rep_sml {k : Nat} : ∀ n ∈ List.replicate k (0 : Int), sml n := fun n h => by rw [List.eq_of_mem_replicate h]; unfold sml; decide
theorem app_sml {a b : List Int} (h : ∀ n ∈ a, sml n) (k : ∀ n ∈ b, sml n) : ∀ n ∈ a ++ b, sml n := fun n m => (List.mem_append.mp m).elim (h n) (k n)
theorem rsz2 {m : Nat} (h : 1 ≤ m) : Builtin.Range.rangeSize 0 ((2 * m : Nat) : Int) 2 = (m : Int) := by
  unfold Builtin.Range.rangeSize
  rw [if_pos (by omega), if_pos (by omega)]
  omega
theorem rsm2 {m : Nat} (h : 1 ≤ m) (h2 : m ≤ 1000) : Builtin.Range.small 0 ((2 * m : Nat) : Int) 2 = true := by
  have e := rsz2 h
  have hj : ((2 * m : Nat) : Int) < 1000000 := by omega
  have hj0 : 0 ≤ ((2 * m : Nat) : Int) := by omega
  have hm1 : (m : Int) < 1000000 := by omega
  have hm0 : 0 ≤ (m : Int) := by omega
  generalize ((2 * m : Nat) : Int) = j at *
  generalize (m : Int) = k at *
  have fit : ∀ x : Int, -1000000 ≤ x → x < 1000000000 → Builtin.Range.rangeFitsLong x = true := by
    intro x a b
    simp only [Builtin.Range.rangeFitsLong, Bool.and_eq_true, decide_eq_true_eq]
    omega
  unfold Builtin.Range.small
  rw [e, fit 0 (by omega) (by omega), fit j (by omega) (by omega), fit 2 (by omega) (by omega), fit k (by omega) (by omega), if_pos (by decide), fit (j + (2 - 1)) (by omega) (by omega)]
  simp
theorem rg3_2 {m : Nat} (h : 1 ≤ m) (h2 : m ≤ 1000) : rg3 [.int 0, .int ((2 * m : Nat) : Int), .int 2] = some (0, 2, m) := by
  have c : RgC 0 ((2 * m : Nat) : Int) 2 (Builtin.Range.rangeSize 0 ((2 * m : Nat) : Int) 2).toNat := ⟨by omega, by decide, rsm2 h h2, by rw [rsz2 h]; simp⟩
  unfold rg3
  simp only
  rw [if_pos c, rsz2 h]
  simp
theorem g_chain {st : Store} (wf : Wf st) {many : Nat} (h2 : 2 ≤ many) (hm : many ≤ 1000) : G_law_is_chain_right [.int (many : Int)] st = some (.bl true, st) := by
  obtain ⟨G, P⟩ := ch_good (many := many) hm
  have hH : newH (2 * many) 0 (chC many).flatten = chHs many := ch_heap
  rw [hH] at G P
  have hw : ∀ w ∈ [(0 : Int)], Wd (· ∈ evens many) w := fun w hw => by
    simp only [List.mem_singleton] at hw
    exact .inr ⟨2 * 0, by omega, ev_mem (by omega)⟩
  have sc : Scan (chHs many) 0 (places [] [0]) (evens many) := by
    have : places [] [(0 : Int)] = evens 1 := by decide
    rw [this]
    exact ch_scan (post := List.replicate (2 * many) 0) (many - 1) 0 (by omega)
  obtain ⟨F, df⟩ := Dfs.ex G _ [] [(0 : Int)] (Nat.le_refl _) (by simp) (by simp) hw
  have pm := reach_same G hw df sc
  have sF : sN F = (List.range many).map fun (k : Nat) => (0 : Int) + (k : Int) * 2 := by rw [sN_eq pm, ch_sorted]
  have tF : (F.map (siz (chHs many))).sum = 2 * many := by
    have := (pm.map (siz (chHs many))).sum_nat
    rw [this]
    exact ch_tot (Nat.le_refl _)
  have wfk : Wf (st ++ kS many many) := wf.app fun o ho => by
    simp only [kS, List.mem_cons, List.not_mem_nil, or_false] at ho
    rcases ho with rfl | rfl <;> exact lts_iD
  have r1 := g_reached G (by omega) hw (by simp) wfk df
  have r2 := g_reached_words G (by omega) hw (by simp) wfk df
  rw [tF] at r2
  rw [sF] at r1
  have cl := g_collected (h := 0) (by omega) (by rw [← hH]; exact newH_len (by unfold chC; rw [flat2 (fun _ => rfl)]; omega)) G (by simpa using P) (by omega) hw (by simp) wfk sc
  simp only [Nat.sub_zero, Nat.mul_one] at cl
  rw [ch_rows, ch_tot (Nat.le_refl _)] at cl
  have f0 : [(0 : Int)].map (fwd (chHs many) (2 * many) (evens many)) = [((2 * (2 * many) : Nat) : Int)] := by
    have := ch_off (many := many) (j := 0) (by omega)
    simp only [List.map_cons, List.map_nil, fwd]
    rw [if_neg (by omega), show wA 0 = 2 * 0 from rfl, this]
    simp
  have nD' : newH (2 * many) (2 * many) (chD many many) = List.replicate (2 * many) 0 ++ chD many many := by
    unfold newH
    rw [chD_len, show 2 * (2 * many) - 2 * many - 2 * many = 0 by omega]
    simp
  rw [f0, nD', show 2 * many + 2 * many = 2 * (2 * many) by omega] at cl
  obtain ⟨y4, lp⟩ := kloop (st := st) hm (ds0 := rngD 0 many) many 0 none (by omega)
  have al1 := alike_1 (st := st ++ kS many many) (ns := (List.range many).map fun (k : Nat) => (0 : Int) + (k : Int) * 2) (i := ((2 * many : Nat) : Int)) (fun n hn => by
    obtain ⟨k, hk, rfl⟩ := List.mem_map.mp hn
    have : k < many := by simpa using hk
    unfold sml; omega) (by simp; omega) (by unfold sml; omega)
  have al3 := alike_3 (st := st ++ kS many many) (ns := List.replicate (2 * many) 0 ++ chD many many) (i := ((2 * (2 * many) : Nat) : Int)) (ms := [((2 * (2 * many) : Nat) : Int)]) (app_sml rep_sml (chD_sml hm hm)) (by simp [chD_len]; omega) (by unfold sml; omega) (fun n hn => by simp only [List.mem_singleton] at hn; rw [hn]; unfold sml; omega) (by simp)
  refine tell_flat (g := kS many many) wf (runF_rt ?_) (by simp [Lt])
  unfold m_law_is_chain_right
  rw [show env0 5 [.int (many : Int)] = [some (.int (many : Int)), none, none, none, none] from rfl]
  have z2 : ∀ S : Store, oMul (.int 2) (.int (many : Int)) S = some (.int ((2 * many : Nat) : Int), S) := fun S => by rw [ev_mulI (by omega)]; simp
  have z4 : ∀ S : Store, oMul (.int 2) (.int ((2 * many : Nat) : Int)) S = some (.int ((2 * (2 * many) : Nat) : Int), S) := fun S => by rw [ev_mulI (by omega)]; simp
  rw [ev_sSeq (e1 := kE many st.length none) (st1 := st ++ kS many 0) (by
    unfold kE
    generalize ((2 * many : Nat) : Int) = R at *
    simp [m_law_is_chain_right_1, z2, sizeLine_eq, kS, chF, chD])]
  rw [ev_sSeq (e1 := kE many st.length y4) (st1 := st ++ kS many many) (by
    refine Eq.trans ?_ lp
    unfold m_law_is_chain_right_2
    have ar : (aC (xV 0) aN) (kE many st.length none) (st ++ kS many 0) = some (.ok [.int (many : Int)], st ++ kS many 0) := by simp [kE]
    rw [ev_sFor, ev_iOf, ar, ev_bnd_ok, rng1_small (by omega) (by omega), Int.toNat_natCast, ev_bndS_ok]
    rfl)]
  have h0 : (st ++ kS many many)[st.length]? = some (.lst (iD (chF many many))) := at0
  have h1 : (st ++ kS many many)[st.length + 1]? = some (.lst (iD (chD many many))) := at1
  have t0 : fTuple [.ref st.length] (st ++ kS many many) = some (.tup (iD (chF many many)), st ++ kS many many) := by simp only [fTuple, rdlOf, h0]
  have t1 : fTuple [.ref (st.length + 1)] (st ++ kS many many) = some (.tup (iD (chD many many)), st ++ kS many many) := by simp only [fTuple, rdlOf, h1]
  have rp : ∀ S : Store, oMul (.tup [.int 0]) (.int ((2 * many : Nat) : Int)) S = some (.tup (iD (List.replicate (2 * many) 0)), S) := fun S => ev_repT rfl (by omega) (by omega)
  have c1 := ev_catT (st := st ++ kS many many) (a := chF many many) (b := List.replicate (2 * many) 0) (by rw [chF_len]; simp; omega)
  have c2 := ev_catT (st := st ++ kS many many) (a := List.replicate (2 * many) 0) (b := chD many many) (by rw [chD_len]; simp; omega)
  have i0 : iD [(0 : Int)] = [D.int 0] := rfl
  have i1 : iD [((2 * (2 * many) : Nat) : Int)] = [D.int ((2 * (2 * many) : Nat) : Int)] := rfl
  have rg : rg3 [.int 0, .int ((2 * many : Nat) : Int), .int 2] = some (0, 2, many) := rg3_2 (by omega) hm
  have rgc : rngC 0 2 many = iD ((List.range many).map fun (k : Nat) => (0 : Int) + (k : Int) * 2) := by unfold rngC iD; rw [List.map_map]; rfl
  rw [i0] at r1 r2 cl
  rw [Int.natCast_zero] at cl
  rw [i1] at cl al3
  rw [show chF many many ++ List.replicate (2 * many) 0 = chHs many from rfl] at c1
  rw [← rgc] at r1 al1
  unfold kE
  generalize hRC : rngC 0 2 many = RC at *
  generalize st ++ kS many many = S1 at *
  generalize List.replicate (2 * many) 0 ++ chD many many = DU at *
  generalize iD (chHs many) = HH at *
  generalize iD (chF many many) = FF at *
  generalize iD (chD many many) = DD at *
  generalize iD (List.replicate (2 * many) 0) = RR at *
  generalize iD DU = DV at *
  generalize ((2 * (2 * many) : Nat) : Int) = R4 at *
  generalize ((2 * many : Nat) : Int) = R2 at *
  rw [ev_sSeq (e1 := [some (.int (many : Int)), some (.int R2), some (.tup HH), some (.tup DV), y4]) (st1 := S1) (by simp [m_law_is_chain_right_3, t0, t1, rp, c1, c2, sizeLine_eq])]
  rw [ev_sSeq (e1 := [some (.int (many : Int)), some (.int R2), some (.tup HH), some (.tup DV), y4]) (st1 := S1) (by
    unfold m_law_is_chain_right_4
    rw [ev_if_f (st1 := S1) (by
      unfold t_law_is_chain_right_4
      exact ev_xNot (b := true) (ev_xTru_bl (by simp [sizeLine_eq, r1, r2, rg, hRC, al1, show many ≤ 65536 by omega])))]
    rfl)]
  simp [m_law_is_chain_right_5, sizeLine_eq, z4, cl, al3]
end K69
end FW

set_option maxHeartbeats 4000000
namespace FW
namespace K69
open PySem L2

/-- all that the law asks at a heap -/
structure Turn (hs ws : List Int) (room h : Nat) (st : Store) : Prop where
  ex : ∃ (rs NH WS NH2 WS2 : List Int) (n : Nat) (r : List D), (∀ x ∈ rs, sml x) ∧ rs.length ≤ 200 ∧ n ≤ 200 ∧ (∀ x ∈ NH, sml x) ∧ NH.length ≤ 400 ∧ (∀ x ∈ WS, sml x) ∧ WS.length = ws.length ∧ (∀ d ∈ r, Ent d) ∧
    G_reached [.tup (iD hs), .tup (iD ws)] st = some (.tup (iD rs), st) ∧ G_reached_words [.tup (iD hs), .tup (iD ws)] st = some (.int (n : Int), st) ∧
    G_law_reached [.tup (iD hs), .tup (iD ws)] st = some (.lst (iD rs), st) ∧
    (∀ i ∈ rs, ∃ a : Nat, i = (a : Int) ∧ ∃ w, At hs a w) ∧ ((rs.map fun i => ((siz hs i.toNat : Nat) : Int)).sum = (n : Int)) ∧
    G_law_collected [.tup (iD hs), .int room, .int h, .lst (iD ws)] st = some (.tup [.lst (iD NH), .int ((room * (1 - h) + n : Nat) : Int), .lst (iD WS)], st) ∧
    G_collected [.tup (iD hs), .int room, .int h, .tup (iD ws)] st = some (.tup [.tup (iD NH), .int ((room * (1 - h) + n : Nat) : Int), .tup (iD WS)], st) ∧
    G_law_shape [.tup (iD hs), .tup (iD ws)] st = some (.lst r, st) ∧ G_law_shape [.tup (iD NH), .tup (iD WS)] st = some (.lst r, st) ∧
    G_reached_words [.tup (iD NH), .tup (iD WS)] st = some (.int (n : Int), st) ∧
    G_collected [.tup (iD NH), .int room, .int ((1 - h : Nat) : Int), .tup (iD WS)] st = some (.tup [.tup (iD NH2), .int ((room * h + n : Nat) : Int), .tup (iD WS2)], st) ∧
    G_law_shape [.tup (iD NH2), .tup (iD WS2)] st = some (.lst r, st)
theorem fw_sml {hs : List Int} {beg : Nat} {ord : List Nat} {w : Int} (h : sml w) (hw : Wd (· ∈ ord) w) (ht : beg + tot hs ord ≤ 1000) : sml (fw (pos hs beg ord) w) := by
  rcases hw with z | ⟨a, rfl, ha⟩
  · rw [fw_odd z]; exact h
  · rw [fw_even]
    have := off_le (hs := hs) ha
    unfold sml pos
    omega
theorem fls_sml {hs : List Int} {a : Nat} (h : ∀ x ∈ hs, sml x) : ∀ x ∈ fls hs a, sml x := fun x hx => h x (List.mem_of_mem_drop (List.mem_of_mem_take hx))
theorem turn_facts {hs ws : List Int} {room h : Nat} {st : Store} {P : List Nat} (hh : h ≤ 1) (hr : room ≤ 100) (hlen : hs.length = 2 * room) (G : Good hs (· ∈ P) room) (Pt : Part hs (room * h) room (· ∈ P)) (hw : ∀ w ∈ ws, Wd (· ∈ P) w) (hl : ws.length ≤ 10) (sm : ∀ x ∈ hs, sml x) (smw : ∀ x ∈ ws, sml x) (wf : Wf st) : Turn hs ws room h st := by
  obtain ⟨F, df⟩ := Dfs.ex G _ [] ws (Nat.le_refl _) (by simp) (by simp) hw
  have nd0 : (places [] ws).Nodup := places_nd (by simp)
  have A0 : ∀ a ∈ places [] ws, a ∈ P := places_A (by simp) hw
  obtain ⟨ord, sc⟩ := Scan.ex G _ 0 (places [] ws) (Nat.le_refl _) (by omega) nd0 A0
  obtain ⟨r, sp⟩ := Shp.ex G _ [] [] ws (Nat.le_refl _) (by simp) (by simp) hw
  have pm := reach_same G hw df sc
  have nd := sc.nd nd0
  have hA := sc.inA G A0
  have cl := sc.cl (fun i a hi => by omega)
  obtain ⟨m2, hm2⟩ := sc.app
  have hro : ∀ w ∈ ws, Wd (· ∈ ord) w := fun w hw' => has_wd (by rw [hm2]; exact (places_has w hw').app) (hw w hw')
  have few : tot hs ord ≤ room := G.fit ord nd hA
  have tF : (F.map (siz hs)).sum = tot hs ord := (pm.map (siz hs)).sum_nat
  have hb : ∀ k ≤ 1, room * (1 - k) + room ≤ 2 * room := fun k hk => by
    rcases Nat.le_one_iff_eq_zero_or_eq_one.mp hk with e | e <;> subst e <;> simp <;> omega
  have b1 := hb h hh
  -- the first copy
  have I := iso_img G nd hA b1 cl
  have G' := good_img G nd hA b1 cl
  have P' := part_img G nd hA b1
  have sub0 : ∀ a ∈ places [] ws, a ∈ ord := fun a ha => by rw [hm2]; exact List.mem_append_left _ ha
  have sc' := Scan.img I sc sub0
  have pw := places_img (o := []) (f := pos hs (room * (1 - h)) ord) I.inj (by simp) hro
  rw [List.map_nil] at pw
  rw [← pw] at sc'
  have ti := tot_img G nd hA b1 (l := ord) fun a h => h
  have hw' : ∀ w ∈ ws.map (fw (pos hs (room * (1 - h)) ord)), Wd (img hs (room * (1 - h)) ord) w := fun w hw1 => by
    obtain ⟨v, hv, rfl⟩ := List.mem_map.mp hw1
    exact wd_img (hro v hv)
  have sp' := sp.iso I (by simp) hro
  rw [List.map_nil] at sp'
  have rl := rows_len (hs := hs) (beg := room * (1 - h)) (ord := ord) (l := ord) fun a ha => G.at_ a (hA a ha)
  have len' := newH_len (room := room) (beg := room * (1 - h)) (found := rows hs (room * (1 - h)) ord ord) (by rw [rl]; omega)
  have fw_eq : ws.map (fwd hs (room * (1 - h)) ord) = ws.map (fw (pos hs (room * (1 - h)) ord)) := rfl
  have smNH : ∀ x ∈ newH room (room * (1 - h)) (rows hs (room * (1 - h)) ord ord), sml x := by
    refine newH_sml (cs := ord.map (row hs (room * (1 - h)) ord)) fun c hc f hf => ?_
    obtain ⟨a, ha, rfl⟩ := List.mem_map.mp hc
    obtain ⟨w, hw1⟩ := G.at_ a (hA a ha)
    unfold row at hf
    rcases List.mem_cons.mp hf with z | z
    · rw [z, hw1.hdr]; exact sm w (List.mem_of_getElem? hw1.1)
    · obtain ⟨v, hv, rfl⟩ := List.mem_map.mp z
      exact fw_sml (fls_sml sm v hv) (has_wd (cl a ha v hv) (G.fl a (hA a ha) v hv)) (by omega)
  have smWS : ∀ x ∈ ws.map (fw (pos hs (room * (1 - h)) ord)), sml x := fun x hx => by
    obtain ⟨v, hv, rfl⟩ := List.mem_map.mp hx
    exact fw_sml (smw v hv) (hro v hv) (by omega)
  -- calls at the first heap
  have c1 := g_reached G (by omega) hw (by omega) wf df
  have c2 := g_reached_words G (by omega) hw (by omega) wf df
  have c3 := g_law_reached G (by omega) hw (by omega) wf df
  have c4 := g_law_collected hh G (by omega) hw (by omega) wf sc
  have c5 := g_collected hh hlen G Pt (by omega) hw (by omega) wf sc
  have c6 := g_shape G (by omega) hw (by omega) wf sp
  have ssum := sum_siz (hs := hs) (F := F)
  rw [tF] at c2 ssum
  rw [fw_eq] at c4 c5
  generalize hNH : newH room (room * (1 - h)) (rows hs (room * (1 - h)) ord ord) = NH at *
  generalize hWS : ws.map (fw (pos hs (room * (1 - h)) ord)) = WS at *
  have lWS : WS.length = ws.length := by rw [← hWS, List.length_map]
  -- calls at the second
  obtain ⟨F', df'⟩ := Dfs.ex G' _ [] WS (Nat.le_refl _) (by simp) (by simp) hw'
  have pm' := reach_same G' hw' df' sc'
  have tF' : (F'.map (siz NH)).sum = tot hs ord := by
    have := (pm'.map (siz NH)).sum_nat
    rw [this]
    exact ti
  have d2 := g_reached_words G' (by omega) hw' (by omega) wf df'
  rw [tF'] at d2
  have d6 := g_shape G' (by omega) hw' (by omega) wf sp'
  have d5 := g_collected (h := 1 - h) (by omega) len' G' P' (by omega) hw' (by omega) wf sc'
  rw [show 1 - (1 - h) = h by omega, ti] at d5
  -- the second copy
  have nd2 := sc'.nd (places_nd (by simp))
  have hA2 := sc'.inA G' (places_A (by simp) hw')
  have cl2 := sc'.cl (fun i a hi => by omega)
  have b2 : room * h + room ≤ 2 * room := by
    rcases Nat.le_one_iff_eq_zero_or_eq_one.mp hh with e | e <;> subst e <;> simp <;> omega
  obtain ⟨m3, hm3⟩ := sc'.app
  have hro2 : ∀ w ∈ WS, Wd (· ∈ ord.map (pos hs (room * (1 - h)) ord)) w := fun w hw1 => has_wd (by rw [hm3]; exact (places_has w hw1).app) (hw' w hw1)
  have I2 := iso_img G' nd2 hA2 b2 cl2
  have G2 := good_img G' nd2 hA2 b2 cl2
  have sp2 := sp'.iso I2 (by simp) hro2
  rw [List.map_nil] at sp2
  have hw2 : ∀ w ∈ WS.map (fw (pos NH (room * h) (ord.map (pos hs (room * (1 - h)) ord)))), Wd (img NH (room * h) (ord.map (pos hs (room * (1 - h)) ord))) w := fun w hw1 => by
    obtain ⟨v, hv, rfl⟩ := List.mem_map.mp hw1
    exact wd_img (hro2 v hv)
  have e6 := g_shape G2 (by omega) hw2 (by rw [List.length_map, lWS]; omega) wf sp2
  have bd : ∀ a ∈ P, a < 1000 := fun a ha => by
    obtain ⟨w, hw1⟩ := G.at_ a ha
    have := hw1.2.2.2
    omega
  have rsm : ∀ x ∈ sN F, sml x := fun x hx => by
    obtain ⟨a, ha, rfl⟩ := sN_mem hx
    have := bd a (hA a (pm.mem_iff.mp ha))
    unfold sml; omega
  have fl : F.length ≤ 200 := by
    rw [pm.length_eq]
    have := sum_len (hs := hs) ord
    unfold tot at few
    omega
  refine ⟨sN F, NH, WS, _, _, tot hs ord, r, rsm, by rw [sN_len]; exact fl, by omega, smNH, by rw [len']; omega, smWS, lWS, sp.ent (by simp), c1, c2, c3, fun i hi => ?_, ssum, c4, c5, c6, d6, d2, d5, e6⟩
  obtain ⟨a, ha, rfl⟩ := sN_mem hi
  exact ⟨a, rfl, G.at_ a (hA a (pm.mem_iff.mp ha))⟩
end K69
end FW

set_option maxHeartbeats 4000000
namespace FW
namespace K69
open PySem L2

/-- the law's names: 0 script 1 bag 2 turn 3 heap 4 room 5 half 6 places 7 roots 8 k 9 shown 10 some 11 words 12 due 13 told 14 again 15 address -/
def wE (n b : Nat) (x2 : Option D) (hs : List Int) (room h : Nat) (P : List Nat) (roots : List Int) (x8 : Option D) (r : List (Option D)) : Env :=
  some (.ref n) :: some (.ref b) :: x2 :: some (.tup (iD hs)) :: some (.int room) :: some (.int h) :: some (.lst (nD P)) :: some (.tup (iD roots)) :: x8 :: r
theorem wroot {n b room h : Nat} {y2 x8 : Option D} {hs roots : List Int} {P : List Nat} {r : List (Option D)} {st : Store} (B : Bag st b) (P1 : P.length < 100000) (Ps : ∀ a ∈ P, a < 1000) (hl : roots.length < 100) :
    ∃ v o, BagOb o ∧ Wd (· ∈ P) v ∧ sml v ∧ b_law_3b3b (wE n b y2 hs room h P roots x8 r) st = some (.nx (wE n b y2 hs room h P (roots ++ [v]) x8 r), st.set b o) := by
  have ne := ev_neE (st := st) (d := .lst (nD P)) (l := P.map fun (a : Nat) => (a : Int)) (by rw [nD_iD]; exact pd_lst)
  have fin : ∀ (v : Int) (o : Ob), BagOb o → Wd (· ∈ P) v → sml v → (xIf (xAnd (xTst (x2 oNe (xV 6) (xVal (xLst aN)))) (xTst (x2 oGt (xCl 2 G_law_take (aC (xV 1) (aC (xC (.int 4)) aN))) (xC (.int 0))))) (x2 oMul (xC (.int 2)) (xCl 2 G_law_some (aC (xV 1) (aC (xV 6) aN)))) (xC (.int 11))) (wE n b y2 hs room h P roots x8 r) st = some (.ok (.int v), st.set b o) →
      ∃ v o, BagOb o ∧ Wd (· ∈ P) v ∧ sml v ∧ b_law_3b3b (wE n b y2 hs room h P roots x8 r) st = some (.nx (wE n b y2 hs room h P (roots ++ [v]) x8 r), st.set b o) := by
    intro v o bo wv sv hx
    refine ⟨v, o, bo, wv, sv, ?_⟩
    have ct := ev_catT (st := st.set b o) (a := roots) (b := [v]) (by simp; omega)
    have i0 : iD [v] = [D.int v] := rfl
    rw [i0] at ct
    unfold b_law_3b3b m_law_3b3b1
    rw [ev_sAsg, ev_x2, show xV 7 (wE n b y2 hs room h P roots x8 r) st = some (.ok (.tup (iD roots)), st) from rfl, ev_bnd_ok, ev_xTup, ev_aC, hx, ev_bnd_ok, ev_aN, ev_bnd_ok, ev_bnd_ok, if_pos (fitz (by simp)), ev_bnd_ok, ct]
    rfl
  by_cases hP : P = []
  · obtain ⟨o, ho, bo⟩ := B
    have same : st.set b o = st := by
      apply List.ext_getElem?
      intro i
      rw [List.getElem?_set]
      split
      · rename_i hi; subst hi; rw [if_pos (List.getElem?_eq_some_iff.mp ho).1, ho]
      · rfl
    refine fin 11 o bo (.inl (by omega)) (by unfold sml; decide) ?_
    have ne' : oNe (.lst (nD P)) (.lst []) st = some (.bl false, st) := by rw [ne, hP]; rfl
    rw [same, ev_xIf_f (st1 := st) (ev_and_f (by simp [wE, sizeLine_eq, ne']))]
    rfl
  · obtain ⟨t, o1, g1, t0, t4, bo1⟩ := g_take B (m := 4) (by omega) (by omega)
    have c1 : (xTst (x2 oNe (xV 6) (xVal (xLst aN)))) (wE n b y2 hs room h P roots x8 r) st = some (.ok true, st) := by
      have ne' : oNe (.lst (nD P)) (.lst []) st = some (.bl true, st) := by
        rw [ne]
        cases P with
        | nil => exact absurd rfl hP
        | cons => rfl
      simp [wE, sizeLine_eq, ne']
    have c2 : (xTst (x2 oGt (xCl 2 G_law_take (aC (xV 1) (aC (xC (.int 4)) aN))) (xC (.int 0)))) (wE n b y2 hs room h P roots x8 r) st = some (.ok (decide (0 < t)), st.set b o1) := by simp [wE, g1]
    by_cases h0 : 0 < t
    · obtain ⟨v, o2, hv, g2, bo2⟩ := g_someL (B.set bo1) (ds := nD P) (by rw [nD_len]; exact List.length_pos_iff.mpr hP) (by rw [nD_len]; exact P1)
      rw [List.set_set] at g2
      obtain ⟨a, ha, rfl⟩ : ∃ a ∈ P, v = .int (a : Int) := by
        unfold nD at hv
        obtain ⟨a, ha, e⟩ := List.mem_map.mp hv
        exact ⟨a, ha, e.symm⟩
      have as := Ps a ha
      refine fin (2 * (a : Int)) o2 bo2 (.inr ⟨a, rfl, ha⟩) (by unfold sml; omega) ?_
      rw [ev_xIf_t ((ev_and_t c1).trans (by rw [c2, decide_eq_true h0]))]
      simp [wE, g2, ev_mulI]
    · refine fin 11 o1 bo1 (.inl (by omega)) (by unfold sml; decide) ?_
      rw [ev_xIf_f ((ev_and_t c1).trans (by rw [c2, decide_eq_false h0]))]
      rfl
theorem wroots {n b room h : Nat} {y2 : Option D} {hs : List Int} {P : List Nat} {r : List (Option D)} {ds0 : List D} (P1 : P.length < 100000) (Ps : ∀ a ∈ P, a < 1000) : ∀ (ds : List D) (roots : List Int) (x8 : Option D) (st : Store), Bag st b → roots.length + ds.length < 100 → (∀ v ∈ roots, Wd (· ∈ P) v ∧ sml v) →
    ∃ ws x8' o, BagOb o ∧ forL ⟨ds0, []⟩ (gN 8) b_law_3b3b ds (wE n b y2 hs room h P roots x8 r) st = some (.nx (wE n b y2 hs room h P ws x8' r), st.set b o) ∧ (∀ v ∈ ws, Wd (· ∈ P) v ∧ sml v) ∧ ws.length = roots.length + ds.length
  | [], roots, x8, st, B, _, hv => by
    obtain ⟨o, ho, bo⟩ := B
    have same : st.set b o = st := by
      apply List.ext_getElem?
      intro i
      rw [List.getElem?_set]
      split
      · rename_i hi; subst hi; rw [if_pos (List.getElem?_eq_some_iff.mp ho).1, ho]
      · rfl
    exact ⟨roots, x8, o, bo, by rw [same, ev_for_nil hold_none], hv, rfl⟩
  | d :: ds, roots, x8, st, B, hl, hv => by
    simp only [List.length_cons] at hl
    obtain ⟨v, o, bo, wv, sv, body⟩ := wroot (n := n) (room := room) (h := h) (y2 := y2) (x8 := some d) (hs := hs) (roots := roots) (r := r) B P1 Ps (by omega)
    obtain ⟨ws, x8', o2, bo2, e, hw, wl⟩ := wroots (n := n) (room := room) (h := h) (y2 := y2) (hs := hs) (r := r) (ds0 := ds0) P1 Ps ds (roots ++ [v]) (some d) (st.set b o) (B.set bo) (by simp; omega) (fun u hu => by
      rcases List.mem_append.mp hu with q | q
      · exact hv u q
      · simp only [List.mem_singleton] at q; rw [q]; exact ⟨wv, sv⟩)
    rw [List.set_set] at e
    refine ⟨ws, x8', o2, bo2, ?_, hw, by rw [wl]; simp; omega⟩
    rw [ev_for_cons hold_none (e1 := wE n b y2 hs room h P roots (some d) r) (st1 := st) rfl body, e]
end K69
end FW

set_option maxHeartbeats 4000000
namespace FW
namespace K69
open PySem L2

theorem wf_setb {st : Store} {b : Nat} {o : Ob} (wf : Wf st) (bo : BagOb o) : Wf (st.set b o) := by
  intro x hx
  rw [List.length_set]
  rcases List.mem_or_eq_of_mem_set hx with z | z
  · exact wf x z
  · rw [z]
    obtain ⟨g, s, p, cells, rfl, _⟩ := bo
    simp only [bagO, LtO, Lts, Lt, and_self, true_and]
    exact ⟨lts_iD, trivial⟩
/-- 1 + len(_law_read(heap, address)[2]) for the addresses -/
theorem wwords {n b room h : Nat} {y2 x8 x9 x10 x11 x12 x13 x14 : Option D} {hs ws rs : List Int} {P : List Nat} {st : Store} (ha : ∀ i ∈ rs, ∃ a : Nat, i = (a : Int) ∧ ∃ w, At hs a w) (hl : rs.length ≤ 1000) :
    lcL ⟨iD rs, []⟩ (gN 15) xYes (x2 oAdd (xC (.int 1)) (xN fLen (aC (x2 oIx (xCl 2 G_law_read (aC (xV 3) (aC (xV 15) aN))) (xC (.int 2))) aN))) (wE n b y2 hs room h P ws x8 [x9, x10, x11, x12, x13, x14, none]) (iD rs) [] st
      = some (.ok (.lst (iD (rs.map fun i => ((siz hs i.toNat : Nat) : Int)))), st) := by
  rw [lcL_map hold_none (iD rs) [] (fun d => match d with | .int i => .int ((siz hs i.toNat : Nat) : Int) | d => d) (fun d => wE n b y2 hs room h P ws x8 [x9, x10, x11, x12, x13, x14, some d])]
  · simp [iD, Function.comp_def]
  · intro d hd
    obtain ⟨i, hi, rfl⟩ := iD_mem.mp hd
    obtain ⟨a, rfl, w, hw⟩ := ha i hi
    refine ⟨rfl, ?_⟩
    have fl : fLen [.tup (iD (fls hs a))] st = some (.int ((fls hs a).length : Nat), st) := by rw [fLen_seq (show seqOf (.tup (iD (fls hs a))) st = some (iD (fls hs a)) from rfl), iD_length]
    rw [hw.len] at fl
    simp [wE, g_law_read hw, ix32, fl, siz]
  · rw [List.length_nil, iD_length, Nat.zero_add]
    exact fitz (by omega)
theorem ev_neI2 {i : Int} {st : Store} : oNe (.int i) (.int i) st = some (.bl false, st) := by rw [ev_neI]; simp
theorem wchecks {n b room h : Nat} {y2 x8 x9 x10 x11 x12 x13 x14 x15 : Option D} {hs ws : List Int} {P : List Nat} {st : Store} (hh : h ≤ 1) (hr : room ≤ 100) (hlen : hs.length = 2 * room) (sm : ∀ x ∈ hs, sml x) (smw : ∀ x ∈ ws, sml x) (hl : ws.length ≤ 10) (T : Turn hs ws room h st) :
    ∃ y9 y10 y11 y12 y13 y14 y15, sSeq m_law_3b4 (sSeq m_law_3b5 (sSeq m_law_3b6 (sSeq m_law_3b7 (sSeq m_law_3b8 (sSeq m_law_3b9 (sSeq m_law_3b10 (sSeq m_law_3b11 (sSeq m_law_3b12 (sSeq m_law_3b13 m_law_3b14))))))))) (wE n b y2 hs room h P ws x8 [x9, x10, x11, x12, x13, x14, x15]) st
      = some (.nx (wE n b y2 hs room h P ws x8 [y9, y10, y11, y12, y13, y14, y15]), st) := by
  obtain ⟨rs, NH, WS, NH2, WS2, k, r, q1, q2, q3, q4, q5, q6, q7, q8, g1, g2, g3, g4, g5, g6, g7, g8, g9, g10, g11, g12⟩ := T.ex
  obtain ⟨sh, rep⟩ := repr_2 (st := st) sm (by omega) smw (by omega)
  have al1 := alike_1 (st := st) (ns := rs) (i := (k : Int)) q1 (by omega) (by unfold sml; omega)
  have lo_le : ∀ j ≤ 1, room * j ≤ 100 := fun j hj => by
    rcases Nat.le_one_iff_eq_zero_or_eq_one.mp hj with e | e <;> subst e <;> simp <;> omega
  have l1 := lo_le (1 - h) (by omega)
  have al3 := alike_3 (st := st) (ns := NH) (ms := WS) (i := ((room * (1 - h) + k : Nat) : Int)) q4 (by omega) (by unfold sml; omega) q6 (by omega)
  have alI := g_alikeI (st := st) (i := (k : Int)) (by unfold sml; omega)
  have ne := ne_same (st := st) q8
  have z1 : oMul (.int (1 - (h : Int))) (.int (room : Int)) st = some (.int ((room * (1 - h) : Nat) : Int), st) := by
    rw [ev_mulI (by omega), show (1 - (h : Int)) * (room : Int) = ((room * (1 - h) : Nat) : Int) by rcases Nat.le_one_iff_eq_zero_or_eq_one.mp hh with e | e <;> subst e <;> simp]
  have z2 : oMul (.int (h : Int)) (.int (room : Int)) st = some (.int ((room * h : Nat) : Int), st) := by
    rw [ev_mulI (by omega), Int.mul_comm]; simp
  have z3 : (1 : Int) - (h : Int) = ((1 - h : Nat) : Int) := by omega
  have s1 : ((room * (1 - h) : Nat) : Int) + (k : Int) = ((room * (1 - h) + k : Nat) : Int) := by omega
  have s2 : ((room * h : Nat) : Int) + (k : Int) = ((room * h + k : Nat) : Int) := by omega
  have lc := wwords (n := n) (b := b) (room := room) (h := h) (y2 := y2) (x8 := x8) (x9 := some (.str sh)) (x10 := some (.lst (iD rs))) (x11 := x11) (x12 := x12) (x13 := x13) (x14 := x14) (hs := hs) (ws := ws) (P := P) (st := st) g4 (by omega)
  have sm5 : fSum [.lst (iD (rs.map fun i => ((siz hs i.toNat : Nat) : Int)))] st = some (.int (k : Int), st) := by simp [fSum, rd_L, g5]
  have rep' := rep st
  generalize ((room * (1 - h) + k : Nat) : Int) = T1 at *
  generalize ((room * h + k : Nat) : Int) = T2 at *
  generalize ((room * (1 - h) : Nat) : Int) = B1 at *
  generalize ((room * h : Nat) : Int) = B2 at *
  refine ⟨some (.str sh), some (.lst (iD rs)), some (.int (k : Int)), some (.tup [.lst (iD NH), .int T1, .lst (iD WS)]), some (.tup [.tup (iD NH), .int T1, .tup (iD WS)]), some (.tup [.tup (iD NH2), .int T2, .tup (iD WS2)]), x15, ?_⟩
  rw [ev_sSeq (e1 := wE n b y2 hs room h P ws x8 [some (.str sh), some (.lst (iD rs)), x11, x12, x13, x14, x15]) (st1 := st) (by simp [m_law_3b4, wE, sizeLine_eq, rep', g3])]
  rw [ev_sSeq (e1 := wE n b y2 hs room h P ws x8 [some (.str sh), some (.lst (iD rs)), some (.int (k : Int)), x12, x13, x14, x15]) (st1 := st) (by
    unfold m_law_3b5
    have it : iSeq (xV 10) (wE n b y2 hs room h P ws x8 [some (.str sh), some (.lst (iD rs)), x11, x12, x13, x14, x15]) st = some (.ok ⟨iD rs, []⟩, st) := by simp [wE, itV]
    rw [ev_sAsg, ev_xN, ev_aC, ev_xVal, ev_xLc, it, ev_bnd_ok, show wipeE (wE n b y2 hs room h P ws x8 [some (.str sh), some (.lst (iD rs)), x11, x12, x13, x14, x15]) [15] = wE n b y2 hs room h P ws x8 [some (.str sh), some (.lst (iD rs)), x11, x12, x13, x14, none] from rfl, lc, ev_bnd_ok]
    simp only [ev_bnd_ok, ev_aN, sm5]
    rfl)]
  have ft : ∀ (l : List Int) (S : Store), fTuple [.lst (iD l)] S = some (.tup (iD l), S) := fun l S => by simp only [fTuple, rdlOf]
  have ol : oList [.tup (iD ws)] st = some (.lst (iD ws)) := rfl
  have ft1 := ft rs st
  have ft2 := ft NH st
  have ft3 := ft WS st
  unfold wE
  generalize iD hs = HH at *
  generalize iD ws = WW at *
  generalize iD rs = RR at *
  generalize iD NH = NN at *
  generalize iD WS = SS at *
  generalize iD NH2 = N2 at *
  generalize iD WS2 = S2 at *
  rw [ev_sSeq (e1 := some (.ref n) :: some (.ref b) :: y2 :: some (.tup HH) :: some (.int room) :: some (.int h) :: some (.lst (nD P)) :: some (.tup WW) :: x8 :: [some (.str sh), some (.lst RR), some (.int (k : Int)), x12, x13, x14, x15]) (st1 := st) (by
    unfold m_law_3b6
    rw [ev_if_f (st1 := st) (by
      unfold t_law_3b6
      exact ev_xNot (b := true) (ev_xTru_bl (by simp [sizeLine_eq, g1, g2, ft1, al1])))]
    rfl)]
  rw [ev_sSeq (e1 := some (.ref n) :: some (.ref b) :: y2 :: some (.tup HH) :: some (.int room) :: some (.int h) :: some (.lst (nD P)) :: some (.tup WW) :: x8 :: [some (.str sh), some (.lst RR), some (.int (k : Int)), some (.tup [.lst NN, .int T1, .lst SS]), x13, x14, x15]) (st1 := st) (by simp [m_law_3b7, ol, g6])]
  rw [ev_sSeq (e1 := some (.ref n) :: some (.ref b) :: y2 :: some (.tup HH) :: some (.int room) :: some (.int h) :: some (.lst (nD P)) :: some (.tup WW) :: x8 :: [some (.str sh), some (.lst RR), some (.int (k : Int)), some (.tup [.lst NN, .int T1, .lst SS]), some (.tup [.tup NN, .int T1, .tup SS]), x14, x15]) (st1 := st) (by simp [m_law_3b8, g7])]
  rw [ev_sSeq (e1 := some (.ref n) :: some (.ref b) :: y2 :: some (.tup HH) :: some (.int room) :: some (.int h) :: some (.lst (nD P)) :: some (.tup WW) :: x8 :: [some (.str sh), some (.lst RR), some (.int (k : Int)), some (.tup [.lst NN, .int T1, .lst SS]), some (.tup [.tup NN, .int T1, .tup SS]), x14, x15]) (st1 := st) (by
    unfold m_law_3b9
    rw [ev_if_f (st1 := st) (by
      unfold t_law_3b9
      exact ev_xNot (b := true) (ev_xTru_bl (by simp [sizeLine_eq, ix30, ix31, ix32, ft2, ft3, al3])))]
    rfl)]
  rw [ev_sSeq (e1 := some (.ref n) :: some (.ref b) :: y2 :: some (.tup HH) :: some (.int room) :: some (.int h) :: some (.lst (nD P)) :: some (.tup WW) :: x8 :: [some (.str sh), some (.lst RR), some (.int (k : Int)), some (.tup [.lst NN, .int T1, .lst SS]), some (.tup [.tup NN, .int T1, .tup SS]), x14, x15]) (st1 := st) (by
    unfold m_law_3b10
    rw [ev_if_f (st1 := st) (by
      unfold t_law_3b10
      exact (ev_or_f (st1 := st) (by simp [ix30, ix32, g8, g9, ne])).trans (by simp [ix31, z1, s1, ev_neI2]))]
    rfl)]
  rw [ev_sSeq (e1 := some (.ref n) :: some (.ref b) :: y2 :: some (.tup HH) :: some (.int room) :: some (.int h) :: some (.lst (nD P)) :: some (.tup WW) :: x8 :: [some (.str sh), some (.lst RR), some (.int (k : Int)), some (.tup [.lst NN, .int T1, .lst SS]), some (.tup [.tup NN, .int T1, .tup SS]), x14, x15]) (st1 := st) (by
    unfold m_law_3b11
    rw [ev_if_f (st1 := st) (by
      unfold t_law_3b11
      exact ev_xNot (b := true) (ev_xTru_bl (by simp [ix30, ix32, g10, alI])))]
    rfl)]
  rw [ev_sSeq (e1 := some (.ref n) :: some (.ref b) :: y2 :: some (.tup HH) :: some (.int room) :: some (.int h) :: some (.lst (nD P)) :: some (.tup WW) :: x8 :: [some (.str sh), some (.lst RR), some (.int (k : Int)), some (.tup [.lst NN, .int T1, .lst SS]), some (.tup [.tup NN, .int T1, .tup SS]), some (.tup [.tup N2, .int T2, .tup S2]), x15]) (st1 := st) (by simp [m_law_3b12, ix30, ix32, z3, g11])]
  rw [ev_sSeq (e1 := some (.ref n) :: some (.ref b) :: y2 :: some (.tup HH) :: some (.int room) :: some (.int h) :: some (.lst (nD P)) :: some (.tup WW) :: x8 :: [some (.str sh), some (.lst RR), some (.int (k : Int)), some (.tup [.lst NN, .int T1, .lst SS]), some (.tup [.tup NN, .int T1, .tup SS]), some (.tup [.tup N2, .int T2, .tup S2]), x15]) (st1 := st) (by
    unfold m_law_3b13
    rw [ev_if_f (st1 := st) (by
      unfold t_law_3b13
      exact (ev_or_f (st1 := st) (by simp [ix31, z2, s2, ev_neI2])).trans (by simp [ix30, ix32, g8, g12, ne]))]
    rfl)]
  unfold m_law_3b14
  rw [ev_if_f (st1 := st) (by
    unfold t_law_3b14
    simp [sizeLine_eq, rep', oNeA])]
  rfl
end K69
end FW

set_option maxHeartbeats 4000000
namespace FW
namespace K69
open PySem L2

/-- the law's names, whatever they hold -/
def Lv (n b : Nat) (e : Env) : Prop := ∃ x2 x3 x4 x5 x6 x7 x8 x9 x10 x11 x12 x13 x14 x15 : Option D, e = [some (.ref n), some (.ref b), x2, x3, x4, x5, x6, x7, x8, x9, x10, x11, x12, x13, x14, x15]
theorem wturn {n b : Nat} {e : Env} {st : Store} (L : Lv n b e) (B : Bag st b) (wf : Wf st) : ∃ e' o, Lv n b e' ∧ BagOb o ∧ b_law_3b e st = some (.nx e', st.set b o) := by
  obtain ⟨x2, x3, x4, x5, x6, x7, x8, x9, x10, x11, x12, x13, x14, x15, rfl⟩ := L
  obtain ⟨hs, P, room, h, o1, bo1, g1, hh, hr, hlen, P14, G, Pt, sm, Ps⟩ := g_heap_drawn B wf
  obtain ⟨t, o2, g2, t0, t6, bo2⟩ := g_take (B.set bo1) (m := 6) (by omega) (by omega)
  rw [List.set_set] at g2
  obtain ⟨k, rfl⟩ : ∃ k : Nat, t = (k : Int) := ⟨t.toNat, by omega⟩
  obtain ⟨ws, x8', o3, bo3, e3, hw3, wl⟩ := wroots (n := n) (b := b) (room := room) (h := h) (y2 := x2) (hs := hs) (P := P) (r := [x9, x10, x11, x12, x13, x14, x15]) (ds0 := rngD 0 k) (by omega) Ps (rngD 0 k) [] x8 (st.set b o2) (B.set bo2) (by simp [rngD]; omega) (by simp)
  rw [List.set_set] at e3
  have wl' : ws.length = k := by rw [wl]; simp [rngD]
  have wf3 : Wf (st.set b o3) := wf_setb wf bo3
  have T := turn_facts (st := st.set b o3) hh hr hlen G Pt (fun w hw => (hw3 w hw).1) (by omega) sm (fun w hw => (hw3 w hw).2) wf3
  obtain ⟨y9, y10, y11, y12, y13, y14, y15, e4⟩ := wchecks (n := n) (b := b) (room := room) (h := h) (y2 := x2) (x8 := x8') (x9 := x9) (x10 := x10) (x11 := x11) (x12 := x12) (x13 := x13) (x14 := x14) (x15 := x15) (P := P) hh hr hlen sm (fun w hw => (hw3 w hw).2) (by omega) T
  refine ⟨_, o3, ⟨x2, some (.tup (iD hs)), some (.int room), some (.int h), some (.lst (nD P)), some (.tup (iD ws)), x8', y9, y10, y11, y12, y13, y14, y15, rfl⟩, bo3, ?_⟩
  unfold b_law_3b
  rw [ev_sSeq (e1 := some (.ref n) :: some (.ref b) :: x2 :: some (.tup (iD hs)) :: some (.int room) :: some (.int h) :: some (.lst (nD P)) :: x7 :: x8 :: [x9, x10, x11, x12, x13, x14, x15]) (st1 := st.set b o1) (by
    simp [m_law_3b1, g1, gT, gsC])]
  rw [ev_sSeq (e1 := wE n b x2 hs room h P [] x8 [x9, x10, x11, x12, x13, x14, x15]) (st1 := st.set b o1) (by
    simp [m_law_3b2, wE])]
  have ar : aC (xCl 2 G_law_take (aC (xV 1) (aC (xC (.int 6)) aN))) aN (wE n b x2 hs room h P [] x8 [x9, x10, x11, x12, x13, x14, x15]) (st.set b o1) = some (.ok [.int (k : Int)], st.set b o2) := by
    simp [wE, g2]
  rw [ev_sSeq (e1 := wE n b x2 hs room h P ws x8' [x9, x10, x11, x12, x13, x14, x15]) (st1 := st.set b o3) (by
    unfold m_law_3b3
    rw [ev_sFor, ev_iOf, ar, ev_bnd_ok, rng1_small (by omega) (by omega), Int.toNat_natCast, ev_bndS_ok]
    exact e3)]
  exact e4
theorem wloop {n b : Nat} {ds0 : List D} : ∀ (ds : List D) (e : Env) (st : Store), Lv n b e → Bag st b → Wf st → ∃ e' o, Lv n b e' ∧ BagOb o ∧ forL ⟨ds0, []⟩ (gN 2) b_law_3b ds e st = some (.nx e', st.set b o)
  | [], e, st, L, B, _ => by
    obtain ⟨o, ho, bo⟩ := B
    have same : st.set b o = st := by
      apply List.ext_getElem?
      intro i
      rw [List.getElem?_set]
      split
      · rename_i hi; subst hi; rw [if_pos (List.getElem?_eq_some_iff.mp ho).1, ho]
      · rfl
    exact ⟨e, o, L, bo, by rw [same, ev_for_nil hold_none]⟩
  | d :: ds, e, st, L, B, wf => by
    have L1 : Lv n b (e.set 2 (some d)) := by
      obtain ⟨x2, x3, x4, x5, x6, x7, x8, x9, x10, x11, x12, x13, x14, x15, rfl⟩ := L
      exact ⟨some d, x3, x4, x5, x6, x7, x8, x9, x10, x11, x12, x13, x14, x15, rfl⟩
    obtain ⟨e1, o1, L2, bo1, h1⟩ := wturn L1 B wf
    obtain ⟨e2, o2, L3, bo2, h2⟩ := wloop (ds0 := ds0) ds e1 (st.set b o1) L2 (B.set bo1) (wf_setb wf bo1)
    rw [List.set_set] at h2
    exact ⟨e2, o2, L3, bo2, by rw [ev_for_cons hold_none (e1 := e.set 2 (some d)) (st1 := st) rfl h1, h2]⟩
theorem w_law {script : List Int} : ∃ st', F_law [.ref 0] [.flst (iD script)] = some (.bl true, st') := by
  obtain ⟨o0, g0, bo0⟩ := g_law_bag (script := script) (st := [.flst (iD script)]) (n := 0) rfl
  have B0 : Bag [.flst (iD script), o0] 1 := ⟨o0, rfl, bo0⟩
  have wf0 : Wf [.flst (iD script), o0] := by
    intro x hx
    simp only [List.mem_cons, List.not_mem_nil, or_false] at hx
    rcases hx with rfl | rfl
    · exact lts_iD
    · obtain ⟨g, s, p, cells, rfl, _⟩ := bo0
      simp only [bagO, LtO, Lts, Lt, and_self, true_and]
      exact ⟨lts_iD, trivial⟩
  obtain ⟨t, o1, g1, t0, t8, bo1⟩ := g_take B0 (m := 8) (by omega) (by omega)
  have B1 := B0.set bo1

  generalize hst : ([.flst (iD script), o0] : Store) = st0 at *
  have c1 : (xTst (x2 oEqA (xCl 2 G_law_take (aC (xV 1) (aC (xC (.int 8)) aN))) (xC (.int 0)))) [some (.ref 0), some (.ref 1), none, none, none, none, none, none, none, none, none, none, none, none, none, none] st0 = some (.ok (t == 0), st0.set 1 o1) := by
    simp [g1, ev_eqI]
  have t2 : ∃ o2, BagOb o2 ∧ t_law_2 [some (.ref 0), some (.ref 1), none, none, none, none, none, none, none, none, none, none, none, none, none, none] st0 = some (.ok false, st0.set 1 o2) := by
    cases q : (t == 0) with
    | false => exact ⟨o1, bo1, by unfold t_law_2; rw [ev_and_f (c1.trans (by rw [q]))]⟩
    | true =>
      obtain ⟨v, o2, hv, g2, bo2⟩ := g_someL B1 (ds := [.int 700, .int 300]) (by simp) (by simp)
      rw [List.set_set] at g2
      have wf2 : Wf (st0.set 1 o2) := wf_setb wf0 bo2
      refine ⟨o2, bo2, ?_⟩
      have ch : G_law_is_chain_right [v] (st0.set 1 o2) = some (.bl true, st0.set 1 o2) := by
        simp only [List.mem_cons, List.not_mem_nil, or_false] at hv
        rcases hv with rfl | rfl
        · exact g_chain wf2 (many := 700) (by omega) (by omega)
        · exact g_chain wf2 (many := 300) (by omega) (by omega)
      unfold t_law_2
      rw [ev_and_t (c1.trans (by rw [q]))]
      exact ev_xNot (b := true) (ev_xTru_bl (by simp [sizeLine_eq, g2, ch]))
  obtain ⟨o2, bo2, t2⟩ := t2
  have B2 := B0.set bo2
  obtain ⟨e3, o3, L3, bo3, h3⟩ := wloop (n := 0) (b := 1) (ds0 := rngD 0 4) (rngD 0 4) [some (.ref 0), some (.ref 1), none, none, none, none, none, none, none, none, none, none, none, none, none, none] (st0.set 1 o2) ⟨none, none, none, none, none, none, none, none, none, none, none, none, none, none, rfl⟩ B2 (wf_setb wf0 bo2)
  rw [List.set_set] at h3
  refine ⟨st0.set 1 o3, runF_rt ?_⟩
  unfold m_law
  rw [ev_sSeq (e1 := [some (.ref 0), some (.ref 1), none, none, none, none, none, none, none, none, none, none, none, none, none, none]) (st1 := st0) (by
    have g0' : G_law_bag [.ref 0] [.flst (iD script)] = some (.ref 1, st0) := by rw [g0, ← hst]; rfl
    simp [m_law_1, env0, g0'])]
  rw [ev_sSeq (e1 := [some (.ref 0), some (.ref 1), none, none, none, none, none, none, none, none, none, none, none, none, none, none]) (st1 := st0.set 1 o2) (by
    unfold m_law_2
    rw [ev_if_f t2]
    rfl)]
  rw [ev_sSeq (e1 := e3) (st1 := st0.set 1 o3) (by
    unfold m_law_3
    have ar : aC (xC (.int 4)) aN [some (.ref 0), some (.ref 1), none, none, none, none, none, none, none, none, none, none, none, none, none, none] (st0.set 1 o2) = some (.ok [.int 4], st0.set 1 o2) := rfl
    rw [ev_sFor, ev_iOf, ar, ev_bnd_ok, rng1_small (by omega) (by omega), ev_bndS_ok]
    exact h3)]
  rfl
end K69
end FW

set_option maxHeartbeats 4000000
namespace FW
namespace K69
open PySem PySem.Spec L2
def top (i : Nat) : Stmt := PySem.Challenge.pw_swornapart_k69_collections_by_shapes.main.body.getD i (.Pass ⟨0, 0, 0, 0⟩)
section
variable {P : Program} {w : World} {K : PySem.W.Frag} {mg : Str → Option Value} {base : Heap} {f : Addr} {fd : FuncData}
abbrev s_read_header : Stmt := top 1
theorem sc_read_header : FnScope ["word", "rest"] ["word"] (defScope s_read_header) := ⟨rfl, rfl, rfl, by decide +kernel, rfl, by decide +kernel, by decide +kernel⟩
theorem ok_read_header (D : FnP K "read_header" s_read_header f fd) : FnG P w K mg base CX0 (1) f fd ["word"] (spF K 1 (F_read_header)) := by
  have scN := (sc_read_header).nd
  have h1 : Fun K "read_header" "read_header" s_read_header f fd := fun_of D
  have h2 := fun hb => fn_ok (P := P) (w := w) (mg := mg) (base := base) (m := m_read_header) (k := 0) h1 sc_read_header hb
  have h3 : spF K 1 (F_read_header) = spF K 1 (runF 2 (m_read_header)) := rfl
  rw [h3]
  refine h2 ?_
  intro cdv A outer s H E hr hgu
  exact (s_cons (s_asg (sl := [1]) (e_op op_fdiv oFdiv_ok (e_var 0) e_int) (g_name 1 scN))
    (s_one (s_ret (e_tup (a_cons (e_op op_fdiv oFdiv_ok (e_op op_mod oMod_ok (e_var 0) e_int) e_int) (a_cons (e_op op_fdiv oFdiv_ok (e_var 1) e_int) (a_cons (e_op op_mod oMod_ok (e_var 1) e_int) a_nil)))))))
abbrev s_many_of : Stmt := top 2
theorem sc_many_of : FnScope ["word"] ["word"] (defScope s_many_of) := ⟨rfl, rfl, rfl, by decide +kernel, rfl, by decide +kernel, by decide +kernel⟩
theorem ok_many_of (D : FnP K "many_of" s_many_of f fd) : FnG P w K mg base CX0 (1) f fd ["word"] (spF K 1 (F_many_of)) := by
  have scN := (sc_many_of).nd
  have h1 : Fun K "many_of" "many_of" s_many_of f fd := fun_of D
  have h2 := fun hb => fn_ok (P := P) (w := w) (mg := mg) (base := base) (m := m_many_of) (k := 0) h1 sc_many_of hb
  have h3 : spF K 1 (F_many_of) = spF K 1 (runF 1 (m_many_of)) := rfl
  rw [h3]
  refine h2 ?_
  intro cdv A outer s H E hr hgu
  exact (s_one (s_ret (e_op op_mod oMod_ok (e_op op_fdiv oFdiv_ok (e_var 0) e_int) e_int)))
abbrev s_size_at : Stmt := top 3
theorem sc_size_at : FnScope ["heap", "address"] ["heap", "address"] (defScope s_size_at) := ⟨rfl, rfl, rfl, by decide +kernel, rfl, by decide +kernel, by decide +kernel⟩
theorem ok_size_at (D : FnP K "size_at" s_size_at f fd) (c_many_of : ClG P w K mg base 1 "many_of" 1 G_many_of) : FnG P w K mg base CX0 (2) f fd ["heap", "address"] (spF K 2 (F_size_at)) := by
  have scN := (sc_size_at).nd
  have h1 : Fun K "size_at" "size_at" s_size_at f fd := fun_of D
  have h2 := fun hb => fn_ok (P := P) (w := w) (mg := mg) (base := base) (m := m_size_at) (k := 1) h1 sc_size_at hb
  have h3 : spF K 2 (F_size_at) = spF K 2 (runF 2 (m_size_at)) := rfl
  rw [h3]
  refine h2 ?_
  intro cdv A outer s H E hr hgu
  exact (s_one (s_ret (e_op op_addAll oAdd_ok e_int (e_call c_many_of hr hgu (by omega) rfl (a_cons (e_sub (e_var 0) (e_var 1)) a_nil)))))
abbrev s_object_at : Stmt := top 4
theorem sc_object_at : FnScope ["heap", "address", "sort", "extra", "many"] ["heap", "address"] (defScope s_object_at) := ⟨rfl, rfl, rfl, by decide +kernel, rfl, by decide +kernel, by decide +kernel⟩
theorem ok_object_at (D : FnP K "object_at" s_object_at f fd) (c_read_header : ClG P w K mg base 1 "read_header" 1 G_read_header) (g_tuple : mg "tuple" = none) : FnG P w K mg base CX0 (2) f fd ["heap", "address"] (spF K 2 (F_object_at)) := by
  have scN := (sc_object_at).nd
  have h1 : Fun K "object_at" "object_at" s_object_at f fd := fun_of D
  have h2 := fun hb => fn_ok (P := P) (w := w) (mg := mg) (base := base) (m := m_object_at) (k := 1) h1 sc_object_at hb
  have h3 : spF K 2 (F_object_at) = spF K 2 (runF 5 (m_object_at)) := rfl
  rw [h3]
  refine h2 ?_
  intro cdv A outer s H E hr hgu
  exact (s_cons (s_asg (sl := [2, 3, 4]) (e_call c_read_header hr hgu (by omega) rfl (a_cons (e_sub (e_var 0) (e_var 1)) a_nil)) (g_tup (sl := [2, 3, 4]) rfl (gs_cons (sl := [2, 3, 4]) (sl1 := [2]) (sl2 := [3, 4]) (g_name 2 scN) (gs_cons (sl := [3, 4]) (sl1 := [3]) (sl2 := [4]) (g_name 3 scN) (gs_cons (sl := [4]) (sl1 := [4]) (sl2 := []) (g_name 4 scN) gs_nil)))))
    (s_one (s_ret (e_tup (a_cons (e_var 2) (a_cons (e_var 3) (a_cons (e_ty call_tuple_of fTuple_ok rfl g_tuple PyProof.Rows.boot_tuple (a_cons (e_slice (e_var 0) (p_some (e_op op_addAll oAdd_ok (e_var 1) e_int)) (p_some (e_op op_addAll oAdd_ok (e_op op_addAll oAdd_ok (e_var 1) e_int) (e_var 4)))) a_nil)) a_nil)))))))
abbrev s_reached : Stmt := top 6
theorem sc_reached : FnScope ["heap", "roots", "found", "line", "word"] ["heap", "roots"] (defScope s_reached) := ⟨rfl, rfl, rfl, by decide +kernel, rfl, by decide +kernel, by decide +kernel⟩
theorem ok_reached (D : FnP K "reached" s_reached f fd) (c_object_at : ClG P w K mg base 2 "object_at" 2 G_object_at) (g_list : mg "list" = none) (g_sorted : mg "sorted" = none) (g_tuple : mg "tuple" = none) : FnG P w K mg base CX0 (3) f fd ["heap", "roots"] (spF K 2 (F_reached)) := by
  have scN := (sc_reached).nd
  have h1 : Fun K "reached" "reached" s_reached f fd := fun_of D
  have h2 := fun hb => fn_ok (P := P) (w := w) (mg := mg) (base := base) (m := m_reached) (k := 2) h1 sc_reached hb
  have h3 : spF K 2 (F_reached) = spF K 2 (runF 5 (m_reached)) := rfl
  rw [h3]
  refine h2 ?_
  intro cdv A outer s H E hr hgu
  exact (s_cons (s_par 2 3 rfl scN (a_cons (e_new f_dct0) (a_cons (e_new (f_ty call_list_of oList_ok rfl g_list PyProof.Rows.boot_list (a_cons (e_var 1) a_nil))) a_nil)))
    (s_cons (s_while PassesOwn.never (t_cmp (op_neD (u64 hr)) oNe_ok (e_var 3) (e_val (f_lst a_nil))) (s_cons (s_asg (sl := [4]) (e_meth0 (T := .lst) mt_popAll mPop_ok PySem.F.plainAttrs_list PySem.F.slot_list_pop PySem.F.type_list_pop (e_var 3)) (g_name 4 scN))
    (s_one (s_if (T.pt (tw_and (t_cmp (op_eqAll (u64 hr)) oEqA_ok (e_op op_mod oMod_ok (e_var 4) e_int) e_int) (tw_and1 (t_dnin hr (e_op op_fdiv oFdiv_ok (e_var 4) e_int) (e_var 2))))) (s_cons (s_asg (sl := []) e_bl (g_sub (u1 hr) (e_var 2) (e_op op_fdiv oFdiv_ok (e_var 4) e_int)))
    (s_one (s_ex (e_meth (T := .lst) mt_extendAll mExtend_ok PySem.F.plainAttrs_list PySem.F.slot_list_extend PySem.F.type_list_extend (e_var 3) (a_cons (e_sub (e_call c_object_at hr hgu (by omega) rfl (a_cons (e_var 0) (a_cons (e_op op_fdiv oFdiv_ok (e_var 4) e_int) a_nil))) e_int) a_nil))))) s_nil))))
    (s_one (s_ret (e_ty call_tuple_of fTuple_ok rfl g_tuple PyProof.Rows.boot_tuple (a_cons (e_val (f_bf (cr_sortAll rfl) oSortedAll_ok rfl g_sorted PyProof.Rows.boot_sorted (a_cons (e_var 2) a_nil))) a_nil))))))
abbrev s_reached_words : Stmt := top 7
theorem sc_reached_words : FnScope ["heap", "roots", "address"] ["heap", "roots"] (defScope s_reached_words) := ⟨rfl, rfl, rfl, by decide +kernel, rfl, by decide +kernel, by decide +kernel⟩
theorem ok_reached_words (D : FnP K "reached_words" s_reached_words f fd) (c_reached : ClG P w K mg base 3 "reached" 2 G_reached) (c_size_at : ClG P w K mg base 2 "size_at" 2 G_size_at) (g_sum : mg "sum" = none) : FnG P w K mg base CX0 (4) f fd ["heap", "roots"] (spF K 2 (F_reached_words)) := by
  have scN := (sc_reached_words).nd
  have h1 : Fun K "reached_words" "reached_words" s_reached_words f fd := fun_of D
  have h2 := fun hb => fn_ok (P := P) (w := w) (mg := mg) (base := base) (m := m_reached_words) (k := 3) h1 sc_reached_words hb
  have h3 : spF K 2 (F_reached_words) = spF K 2 (runF 3 (m_reached_words)) := rfl
  rw [h3]
  refine h2 ?_
  intro cdv A outer s H E hr hgu
  exact (s_one (s_ret (e_bf (cr_sum rfl) fSum_ok rfl g_sum PyProof.Rows.boot_sum (a_cons (e_val (f_lc (own := [(("address" : Str), 2)]) (sl := [2]) rfl scN (i_seq (e_call c_reached hr hgu (by omega) rfl (a_cons (e_var 0) (a_cons (e_var 1) a_nil)))) rfl (fun _ _ _ _ _ => (g_name 2 scN)) (fun _ _ _ _ _ => ts_nil) (fun _ _ _ _ _ => (e_call c_size_at hr hgu (by omega) rfl (a_cons (e_var 0) (a_cons (e_var 2) a_nil)))))) a_nil))))
abbrev s_moved_word : Stmt := top 8
theorem sc_moved_word : FnScope ["words", "offset", "begin", "found", "moved", "word", "at"] ["words", "offset", "begin", "found", "moved", "word"] (defScope s_moved_word) := ⟨rfl, rfl, rfl, by decide +kernel, rfl, by decide +kernel, by decide +kernel⟩
theorem ok_moved_word (D : FnP K "moved_word" s_moved_word f fd) (c_many_of : ClG P w K mg base 1 "many_of" 1 G_many_of) (g_len : mg "len" = none) : FnG P w K mg base CX0 (2) f fd ["words", "offset", "begin", "found", "moved", "word"] (spF K 6 (F_moved_word)) := by
  have scN := (sc_moved_word).nd
  have h1 : Fun K "moved_word" "moved_word" s_moved_word f fd := fun_of D
  have h2 := fun hb => fn_ok (P := P) (w := w) (mg := mg) (base := base) (m := m_moved_word) (k := 1) h1 sc_moved_word hb
  have h3 : spF K 6 (F_moved_word) = spF K 6 (runF 7 (m_moved_word)) := rfl
  rw [h3]
  refine h2 ?_
  intro cdv A outer s H E hr hgu
  exact (s_cons (s_if (t_cmp (op_eqAll (u64 hr)) oEqA_ok (e_op op_mod oMod_ok (e_var 5) e_int) e_int) (s_one (s_ret (e_var 5))) s_nil)
    (s_cons (s_if (t_dnin hr (e_var 5) (e_var 4)) (s_cons (s_asg (sl := [6]) (e_op op_sub oSub_ok (e_op op_fdiv oFdiv_ok (e_var 5) e_int) (e_var 1)) (g_name 6 scN))
    (s_cons (s_asg (sl := []) (e_op op_mulAll oMul_ok e_int (e_op op_addAll oAdd_ok (e_var 2) (e_bf cr_lenAll fLen_ok rfl g_len PySem.boot_len (a_cons (e_var 3) a_nil)))) (g_sub (u1 hr) (e_var 4) (e_var 5)))
    (s_one (s_ex (e_meth (T := .lst) mt_extendAll mExtend_ok PySem.F.plainAttrs_list PySem.F.slot_list_extend PySem.F.type_list_extend (e_var 3) (a_cons (e_slice (e_var 0) (p_some (e_var 6)) (p_some (e_op op_addAll oAdd_ok (e_op op_addAll oAdd_ok (e_var 6) e_int) (e_call c_many_of hr hgu (by omega) rfl (a_cons (e_sub (e_var 0) (e_var 6)) a_nil))))) a_nil)))))) s_nil)
    (s_one (s_ret (e_dget hr (e_var 4) (e_var 5))))))
abbrev s_gathered : Stmt := top 9
theorem sc_gathered : FnScope ["words", "offset", "begin", "roots", "found", "moved", "word", "at", "behind", "index"] ["words", "offset", "begin", "roots"] (defScope s_gathered) := ⟨rfl, rfl, rfl, by decide +kernel, rfl, by decide +kernel, by decide +kernel⟩
theorem ok_gathered (D : FnP K "gathered" s_gathered f fd) (c_moved_word : ClG P w K mg base 2 "moved_word" 6 G_moved_word) (c_many_of : ClG P w K mg base 1 "many_of" 1 G_many_of) (g_len : mg "len" = none) (g_range : mg "range" = none) : FnG P w K mg base CX0 (3) f fd ["words", "offset", "begin", "roots"] (spF K 4 (F_gathered)) := by
  have scN := (sc_gathered).nd
  have h1 : Fun K "gathered" "gathered" s_gathered f fd := fun_of D
  have h2 := fun hb => fn_ok (P := P) (w := w) (mg := mg) (base := base) (m := m_gathered) (k := 2) h1 sc_gathered hb
  have h3 : spF K 4 (F_gathered) = spF K 4 (runF 10 (m_gathered)) := rfl
  rw [h3]
  refine h2 ?_
  intro cdv A outer s H E hr hgu
  exact (s_cons (s_asg (sl := [4, 5]) (e_tup (a_cons (e_new (f_lst a_nil)) (a_cons (e_new f_dct0) a_nil))) (g_tup (sl := [4, 5]) rfl (gs_cons (sl := [4, 5]) (sl1 := [4]) (sl2 := [5]) (g_name 4 scN) (gs_cons (sl := [5]) (sl1 := [5]) (sl2 := []) (g_name 5 scN) gs_nil))))
    (s_cons (set_lc (own := [(("word" : Str), 6)]) (sl := [6]) rfl scN (i_seq (e_var 3)) rfl (fun _ _ _ _ _ => (g_name 6 scN)) (fun _ _ _ _ _ => ts_nil) (fun _ _ _ _ _ => (e_call c_moved_word hr hgu (by omega) rfl (a_cons (e_var 0) (a_cons (e_var 1) (a_cons (e_var 2) (a_cons (e_var 4) (a_cons (e_var 5) (a_cons (e_var 6) a_nil)))))))) (.inl rfl) rfl rfl rfl)
    (s_cons (s_asg (sl := [7]) e_int (g_name 7 scN))
    (s_cons (s_while PassesOwn.never (t_cmp op_ltAll oCmp_ok (e_var 7) (e_bf cr_lenAll fLen_ok rfl g_len PySem.boot_len (a_cons (e_var 4) a_nil))) (s_cons (s_asg (sl := [8]) (e_op op_addAll oAdd_ok (e_op op_addAll oAdd_ok (e_var 7) e_int) (e_call c_many_of hr hgu (by omega) rfl (a_cons (e_sub (e_var 4) (e_var 7)) a_nil))) (g_name 8 scN))
    (s_cons (s_for (sl := [9]) PassesOwn.never rfl (i_range2 rfl g_range (a_cons (e_op op_addAll oAdd_ok (e_var 7) e_int) (a_cons (e_var 8) a_nil))) (g_name 9 scN) (s_one (s_asg (sl := []) (e_call c_moved_word hr hgu (by omega) rfl (a_cons (e_var 0) (a_cons (e_var 1) (a_cons (e_var 2) (a_cons (e_var 4) (a_cons (e_var 5) (a_cons (e_sub (e_var 4) (e_var 9)) a_nil))))))) (g_sub (u1 hr) (e_var 4) (e_var 9)))))
    (s_one (s_asg (sl := [7]) (e_var 8) (g_name 7 scN))))))
    (s_one (s_ret (e_tup (a_cons (e_var 4) (a_cons (e_var 3) a_nil)))))))))
abbrev s_spread : Stmt := top 10
theorem sc_spread : FnScope ["room", "half", "words"] ["room", "half", "words"] (defScope s_spread) := ⟨rfl, rfl, rfl, by decide +kernel, rfl, by decide +kernel, by decide +kernel⟩
theorem ok_spread (D : FnP K "spread" s_spread f fd) (g_len : mg "len" = none) : FnG P w K mg base CX0 (1) f fd ["room", "half", "words"] (spF K 3 (F_spread)) := by
  have scN := (sc_spread).nd
  have h1 : Fun K "spread" "spread" s_spread f fd := fun_of D
  have h2 := fun hb => fn_ok (P := P) (w := w) (mg := mg) (base := base) (m := m_spread) (k := 0) h1 sc_spread hb
  have h3 : spF K 3 (F_spread) = spF K 3 (runF 3 (m_spread)) := rfl
  rw [h3]
  refine h2 ?_
  intro cdv A outer s H E hr hgu
  exact (s_one (s_ret (e_tup (a_star (e_op op_mulAll oMul_ok (e_val (f_lst (a_cons e_int a_nil))) (e_op op_mulAll oMul_ok (e_var 0) (e_var 1))) (a_star (e_var 2) (a_star (e_op op_mulAll oMul_ok (e_val (f_lst (a_cons e_int a_nil))) (e_op op_sub oSub_ok (e_op op_mulAll oMul_ok (e_var 0) (e_op op_sub oSub_ok e_int (e_var 1))) (e_bf cr_lenAll fLen_ok rfl g_len PySem.boot_len (a_cons (e_var 2) a_nil)))) a_nil))))))
abbrev s_collected : Stmt := top 11
theorem sc_collected : FnScope ["heap", "room", "half", "roots", "begin", "found"] ["heap", "room", "half", "roots"] (defScope s_collected) := ⟨rfl, rfl, rfl, by decide +kernel, rfl, by decide +kernel, by decide +kernel⟩
theorem ok_collected (D : FnP K "collected" s_collected f fd) (c_gathered : ClG P w K mg base 3 "gathered" 4 G_gathered) (c_spread : ClG P w K mg base 1 "spread" 3 G_spread) (g_tuple : mg "tuple" = none) (g_len : mg "len" = none) : FnG P w K mg base CX0 (4) f fd ["heap", "room", "half", "roots"] (spF K 4 (F_collected)) := by
  have scN := (sc_collected).nd
  have h1 : Fun K "collected" "collected" s_collected f fd := fun_of D
  have h2 := fun hb => fn_ok (P := P) (w := w) (mg := mg) (base := base) (m := m_collected) (k := 3) h1 sc_collected hb
  have h3 : spF K 4 (F_collected) = spF K 4 (runF 6 (m_collected)) := rfl
  rw [h3]
  refine h2 ?_
  intro cdv A outer s H E hr hgu
  exact (s_cons (s_asg (sl := [4]) (e_op op_mulAll oMul_ok (e_var 1) (e_op op_sub oSub_ok e_int (e_var 2))) (g_name 4 scN))
    (s_cons (s_asg (sl := [5, 3]) (e_call c_gathered hr hgu (by omega) rfl (a_cons (e_slice (e_var 0) (p_some (e_op op_mulAll oMul_ok (e_var 1) (e_var 2))) (p_some (e_op op_mulAll oMul_ok (e_var 1) (e_op op_addAll oAdd_ok (e_var 2) e_int)))) (a_cons (e_op op_mulAll oMul_ok (e_var 1) (e_var 2)) (a_cons (e_var 4) (a_cons (e_var 3) a_nil))))) (g_tup (sl := [5, 3]) rfl (gs_cons (sl := [5, 3]) (sl1 := [5]) (sl2 := [3]) (g_name 5 scN) (gs_cons (sl := [3]) (sl1 := [3]) (sl2 := []) (g_name 3 scN) gs_nil))))
    (s_one (s_ret (e_tup (a_cons (e_call c_spread hr hgu (by omega) rfl (a_cons (e_var 1) (a_cons (e_op op_sub oSub_ok e_int (e_var 2)) (a_cons (e_var 5) a_nil)))) (a_cons (e_op op_addAll oAdd_ok (e_var 4) (e_bf cr_lenAll fLen_ok rfl g_len PySem.boot_len (a_cons (e_var 5) a_nil))) (a_cons (e_ty call_tuple_of fTuple_ok rfl g_tuple PyProof.Rows.boot_tuple (a_cons (e_var 3) a_nil)) a_nil))))))))
abbrev s_law_bag : Stmt := top 13
theorem sc_law_bag : FnScope ["script", "cell"] ["script"] (defScope s_law_bag) := ⟨rfl, rfl, rfl, by decide +kernel, rfl, by decide +kernel, by decide +kernel⟩
theorem ok_law_bag (D : FnP K "_law_bag" s_law_bag f fd) (g_abs : mg "abs" = none) : FnG P w K mg base CX0 (1) f fd ["script"] (spF K 1 (F_law_bag)) := by
  have scN := (sc_law_bag).nd
  have h1 : Fun K "_law_bag" "_law_bag" s_law_bag f fd := fun_of D
  have h2 := fun hb => fn_ok (P := P) (w := w) (mg := mg) (base := base) (m := m_law_bag) (k := 0) h1 sc_law_bag hb
  have h3 : spF K 1 (F_law_bag) = spF K 1 (runF 2 (m_law_bag)) := rfl
  rw [h3]
  refine h2 ?_
  intro cdv A outer s H E hr hgu
  exact (s_one (s_ret (e_new (f_lst (a_cons e_int (a_cons e_int (a_cons e_int (a_cons (e_val (f_lc (own := [(("cell" : Str), 1)]) (sl := [1]) rfl scN (i_seq (e_slice (e_var 0) p_none (p_some e_int))) rfl (fun _ _ _ _ _ => (g_name 1 scN)) (fun _ _ _ _ _ => ts_nil) (fun _ _ _ _ _ => (e_bf call_abs fAbs_ok rfl g_abs PyProof.Rows.boot_abs (a_cons (e_var 1) a_nil))))) a_nil))))))))
abbrev s_law_take : Stmt := top 14
theorem sc_law_take : FnScope ["bag", "many", "cell", "stirred", "value", "begin", "second"] ["bag", "many"] (defScope s_law_take) := ⟨rfl, rfl, rfl, by decide +kernel, rfl, by decide +kernel, by decide +kernel⟩
theorem ok_law_take (D : FnP K "_law_take" s_law_take f fd) (g_int : mg "int" = none) : FnG P w K mg base CX0 (1) f fd ["bag", "many"] (spF K 2 (F_law_take)) := by
  have scN := (sc_law_take).nd
  have h1 : Fun K "_law_take" "_law_take" s_law_take f fd := fun_of D
  have h2 := fun hb => fn_ok (P := P) (w := w) (mg := mg) (base := base) (m := m_law_take) (k := 0) h1 sc_law_take hb
  have h3 : spF K 2 (F_law_take) = spF K 2 (runF 7 (m_law_take)) := rfl
  rw [h3]
  refine h2 ?_
  intro cdv A outer s H E hr hgu
  exact (s_cons (s_if (t_cmp (op_eqAll (u64 hr)) oEqA_ok (e_sub (e_var 0) e_int) e_int) (s_cons (s_asg (sl := [2]) (e_sub (e_op op_addAll oAdd_ok (e_slice (e_sub (e_var 0) e_int) (p_some (e_sub (e_var 0) e_int)) p_none) (e_val (f_lst (a_cons e_int a_nil)))) e_int) (g_name 2 scN))
    (s_cons (s_augS (u1 hr) (e_var 0) e_int ip_add fIp_ok e_int)
    (s_cons (s_if (t_cmp op_geAll oCmp_ok (e_var 2) (e_op op_pow oPow_ok e_int e_int)) (s_one (s_asg (sl := []) (e_var 2) (g_sub (u1 hr) (e_var 0) e_int))) s_nil)
    (s_cons (s_asg (sl := [3]) (e_op op_addAll oAdd_ok (e_op op_addAll oAdd_ok (e_op op_mulAll oMul_ok (e_sub (e_var 0) e_int) e_int) (e_op op_mod oMod_ok (e_ty call_int1 fInt_ok rfl g_int PyProof.Rows.boot_int (a_cons (e_var 2) a_nil)) e_int)) (e_op op_mulAll oMul_ok e_int (e_sub (e_var 0) e_int))) (g_name 3 scN))
    (s_one (s_asg (sl := []) (e_op op_mod oMod_ok (e_ty call_int1 fInt_ok rfl g_int PyProof.Rows.boot_int (a_cons (e_var 3) a_nil)) e_int) (g_sub (u1 hr) (e_var 0) e_int))))))) s_nil)
    (s_cons (s_if (t_cmp op_gtAll oCmp_ok (e_sub (e_var 0) e_int) e_int) (s_cons (s_asg (sl := [4]) (e_op op_mod oMod_ok (e_ty call_int1 fInt_ok rfl g_int PyProof.Rows.boot_int (a_cons (e_sub (e_var 0) e_int) a_nil)) (e_var 1)) (g_name 4 scN))
    (s_cons (s_asg (sl := []) (e_op op_fdiv oFdiv_ok (e_ty call_int1 fInt_ok rfl g_int PyProof.Rows.boot_int (a_cons (e_sub (e_var 0) e_int) a_nil)) (e_var 1)) (g_sub (u1 hr) (e_var 0) e_int))
    (s_one (s_ret (e_var 4))))) s_nil)
    (s_cons (s_asg (sl := [5]) (e_op op_mod oMod_ok (e_ty call_int1 fInt_ok rfl g_int PyProof.Rows.boot_int (a_cons (e_op op_mulAll oMul_ok (e_op op_addAll oAdd_ok (e_sub (e_var 0) e_int) e_int) e_int) a_nil)) e_int) (g_name 5 scN))
    (s_cons (s_asg (sl := [6]) (e_op op_mod oMod_ok (e_ty call_int1 fInt_ok rfl g_int PyProof.Rows.boot_int (a_cons (e_op op_mulAll oMul_ok (e_op op_mod oMod_ok (e_ty call_int1 fInt_ok rfl g_int PyProof.Rows.boot_int (a_cons (e_op op_mulAll oMul_ok (e_var 5) (e_var 5)) a_nil)) e_int) e_int) a_nil)) e_int) (g_name 6 scN))
    (s_one (s_ret (e_op op_mod oMod_ok (e_ty call_int1 fInt_ok rfl g_int PyProof.Rows.boot_int (a_cons (e_op op_fdiv oFdiv_ok (e_var 6) e_int) a_nil)) (e_var 1))))))))
abbrev s_law_some : Stmt := top 15
theorem sc_law_some : FnScope ["bag", "things"] ["bag", "things"] (defScope s_law_some) := ⟨rfl, rfl, rfl, by decide +kernel, rfl, by decide +kernel, by decide +kernel⟩
theorem ok_law_some (D : FnP K "_law_some" s_law_some f fd) (c_law_take : ClG P w K mg base 1 "_law_take" 2 G_law_take) (g_len : mg "len" = none) : FnG P w K mg base CX0 (2) f fd ["bag", "things"] (spF K 2 (F_law_some)) := by
  have scN := (sc_law_some).nd
  have h1 : Fun K "_law_some" "_law_some" s_law_some f fd := fun_of D
  have h2 := fun hb => fn_ok (P := P) (w := w) (mg := mg) (base := base) (m := m_law_some) (k := 1) h1 sc_law_some hb
  have h3 : spF K 2 (F_law_some) = spF K 2 (runF 2 (m_law_some)) := rfl
  rw [h3]
  refine h2 ?_
  intro cdv A outer s H E hr hgu
  exact (s_one (s_ret (e_sub (e_var 1) (e_call c_law_take hr hgu (by omega) rfl (a_cons (e_var 0) (a_cons (e_bf cr_lenAll fLen_ok rfl g_len PySem.boot_len (a_cons (e_var 1) a_nil)) a_nil))))))
abbrev s_law_alike : Stmt := top 16
theorem sc_law_alike : FnScope ["found", "due"] ["found", "due"] (defScope s_law_alike) := ⟨rfl, rfl, rfl, by decide +kernel, rfl, by decide +kernel, by decide +kernel⟩
theorem ok_law_alike (D : FnP K "_law_alike" s_law_alike f fd) (g_repr : mg "repr" = none) : FnG P w K mg base CX0 (1) f fd ["found", "due"] (spF K 2 (F_law_alike)) := by
  have scN := (sc_law_alike).nd
  have h1 : Fun K "_law_alike" "_law_alike" s_law_alike f fd := fun_of D
  have h2 := fun hb => fn_ok (P := P) (w := w) (mg := mg) (base := base) (m := m_law_alike) (k := 0) h1 sc_law_alike hb
  have h3 : spF K 2 (F_law_alike) = spF K 2 (runF 2 (m_law_alike)) := rfl
  rw [h3]
  refine h2 ?_
  intro cdv A outer s H E hr hgu
  exact (s_one (s_ret (e_and (e_cmp (op_eqAll (u64 hr)) oEqA_ok (e_var 0) (e_var 1)) (e_one (e_cmp (op_eqAll (u64 hr)) oEqA_ok (e_bf (cr_reprAll hgu (u66 hr)) fRepr_ok rfl g_repr PyProof.Rows.boot_repr (a_cons (e_var 0) a_nil)) (e_bf (cr_reprAll hgu (u66 hr)) fRepr_ok rfl g_repr PyProof.Rows.boot_repr (a_cons (e_var 1) a_nil)))))))
abbrev s_law_header : Stmt := top 17
theorem sc_law_header : FnScope ["sort", "extra", "many"] ["sort", "extra", "many"] (defScope s_law_header) := ⟨rfl, rfl, rfl, by decide +kernel, rfl, by decide +kernel, by decide +kernel⟩
theorem ok_law_header (D : FnP K "_law_header" s_law_header f fd) : FnG P w K mg base CX0 (1) f fd ["sort", "extra", "many"] (spF K 3 (F_law_header)) := by
  have scN := (sc_law_header).nd
  have h1 : Fun K "_law_header" "_law_header" s_law_header f fd := fun_of D
  have h2 := fun hb => fn_ok (P := P) (w := w) (mg := mg) (base := base) (m := m_law_header) (k := 0) h1 sc_law_header hb
  have h3 : spF K 3 (F_law_header) = spF K 3 (runF 3 (m_law_header)) := rfl
  rw [h3]
  refine h2 ?_
  intro cdv A outer s H E hr hgu
  exact (s_one (s_ret (e_op op_addAll oAdd_ok (e_op op_mulAll oMul_ok e_int (e_op op_addAll oAdd_ok (e_op op_mulAll oMul_ok e_int (e_op op_addAll oAdd_ok (e_op op_mulAll oMul_ok e_int (e_var 1)) (e_var 2))) (e_var 0))) e_int)))
abbrev s_law_read : Stmt := top 18
theorem sc_law_read : FnScope ["heap", "address", "head", "many"] ["heap", "address"] (defScope s_law_read) := ⟨rfl, rfl, rfl, by decide +kernel, rfl, by decide +kernel, by decide +kernel⟩
theorem ok_law_read (D : FnP K "_law_read" s_law_read f fd) (g_int : mg "int" = none) (g_tuple : mg "tuple" = none) : FnG P w K mg base CX0 (1) f fd ["heap", "address"] (spF K 2 (F_law_read)) := by
  have scN := (sc_law_read).nd
  have h1 : Fun K "_law_read" "_law_read" s_law_read f fd := fun_of D
  have h2 := fun hb => fn_ok (P := P) (w := w) (mg := mg) (base := base) (m := m_law_read) (k := 0) h1 sc_law_read hb
  have h3 : spF K 2 (F_law_read) = spF K 2 (runF 4 (m_law_read)) := rfl
  rw [h3]
  refine h2 ?_
  intro cdv A outer s H E hr hgu
  exact (s_cons (s_asg (sl := [2]) (e_op op_fdiv oFdiv_ok (e_op op_sub oSub_ok (e_sub (e_var 0) (e_var 1)) e_int) e_int) (g_name 2 scN))
    (s_cons (s_asg (sl := [3]) (e_op op_mod oMod_ok (e_ty call_int1 fInt_ok rfl g_int PyProof.Rows.boot_int (a_cons (e_op op_fdiv oFdiv_ok (e_ty call_int1 fInt_ok rfl g_int PyProof.Rows.boot_int (a_cons (e_var 2) a_nil)) e_int) a_nil)) e_int) (g_name 3 scN))
    (s_one (s_ret (e_tup (a_cons (e_op op_mod oMod_ok (e_ty call_int1 fInt_ok rfl g_int PyProof.Rows.boot_int (a_cons (e_var 2) a_nil)) e_int) (a_cons (e_op op_fdiv oFdiv_ok (e_ty call_int1 fInt_ok rfl g_int PyProof.Rows.boot_int (a_cons (e_var 2) a_nil)) e_int) (a_cons (e_ty call_tuple_of fTuple_ok rfl g_tuple PyProof.Rows.boot_tuple (a_cons (e_slice (e_var 0) (p_some (e_op op_addAll oAdd_ok (e_var 1) e_int)) (p_some (e_op op_addAll oAdd_ok (e_op op_addAll oAdd_ok (e_var 1) e_int) (e_var 3)))) a_nil)) a_nil))))))))
abbrev s_law_reached : Stmt := top 19
theorem sc_law_reached : FnScope ["heap", "words", "found", "line", "word", "address"] ["heap", "words"] (defScope s_law_reached) := ⟨rfl, rfl, rfl, by decide +kernel, rfl, by decide +kernel, by decide +kernel⟩
theorem ok_law_reached (D : FnP K "_law_reached" s_law_reached f fd) (c_law_read : ClG P w K mg base 1 "_law_read" 2 G_law_read) (g_int : mg "int" = none) (g_sorted : mg "sorted" = none) : FnG P w K mg base CX0 (2) f fd ["heap", "words"] (spF K 2 (F_law_reached)) := by
  have scN := (sc_law_reached).nd
  have h1 : Fun K "_law_reached" "_law_reached" s_law_reached f fd := fun_of D
  have h2 := fun hb => fn_ok (P := P) (w := w) (mg := mg) (base := base) (m := m_law_reached) (k := 1) h1 sc_law_reached hb
  have h3 : spF K 2 (F_law_reached) = spF K 2 (runF 6 (m_law_reached)) := rfl
  rw [h3]
  refine h2 ?_
  intro cdv A outer s H E hr hgu
  exact (s_cons (s_par 2 3 rfl scN (a_cons (e_new (f_lst a_nil)) (a_cons (e_new (f_lc (own := [(("word" : Str), 4)]) (sl := [4]) rfl scN (i_seq (e_var 1)) rfl (fun _ _ _ _ _ => (g_name 4 scN)) (fun _ _ _ _ _ => (ts_one (t_cmp (op_eqAll (u64 hr)) oEqA_ok (e_op op_mod oMod_ok (e_ty call_int1 fInt_ok rfl g_int PyProof.Rows.boot_int (a_cons (e_var 4) a_nil)) e_int) e_int))) (fun _ _ _ _ _ => (e_var 4)))) a_nil)))
    (s_cons (s_while PassesOwn.never (t_cmp (op_neD (u64 hr)) oNe_ok (e_var 3) (e_val (f_lst a_nil))) (s_cons (s_asg (sl := [5]) (e_op op_fdiv oFdiv_ok (e_ty call_int1 fInt_ok rfl g_int PyProof.Rows.boot_int (a_cons (e_meth0 (T := .lst) mt_popAll mPop_ok PySem.F.plainAttrs_list PySem.F.slot_list_pop PySem.F.type_list_pop (e_var 3)) a_nil)) e_int) (g_name 5 scN))
    (s_one (s_if (t_cmp op_notInAll oIn_ok (e_var 5) (e_var 2)) (s_cons (s_ex (e_meth (T := .lst) mt_append mAppend_ok PySem.F.plainAttrs_list PySem.F.slot_list_append PySem.F.type_list_append (e_var 2) (a_cons (e_var 5) a_nil)))
    (s_one (s_ex (e_meth (T := .lst) mt_extendAll mExtend_ok PySem.F.plainAttrs_list PySem.F.slot_list_extend PySem.F.type_list_extend (e_var 3) (a_cons (e_val (f_lc (own := [(("word" : Str), 4)]) (sl := [4]) rfl scN (i_seq (e_sub (e_call c_law_read hr hgu (by omega) rfl (a_cons (e_var 0) (a_cons (e_var 5) a_nil))) e_int)) rfl (fun _ _ _ _ _ => (g_name 4 scN)) (fun _ _ _ _ _ => (ts_one (t_cmp (op_eqAll (u64 hr)) oEqA_ok (e_op op_mod oMod_ok (e_ty call_int1 fInt_ok rfl g_int PyProof.Rows.boot_int (a_cons (e_var 4) a_nil)) e_int) e_int))) (fun _ _ _ _ _ => (e_var 4)))) a_nil))))) s_nil))))
    (s_one (s_ret (e_val (f_bf (cr_sortAll rfl) oSortedAll_ok rfl g_sorted PyProof.Rows.boot_sorted (a_cons (e_var 2) a_nil)))))))
abbrev s_law_placed : Stmt := top 21
theorem sc_law_placed : FnScope ["heap", "word", "places", "order", "free", "address"] ["heap", "word", "places", "order", "free"] (defScope s_law_placed) := ⟨rfl, rfl, rfl, by decide +kernel, rfl, by decide +kernel, by decide +kernel⟩
theorem ok_law_placed (D : FnP K "_law_placed" s_law_placed f fd) (c_law_read : ClG P w K mg base 1 "_law_read" 2 G_law_read) (g_int : mg "int" = none) (g_len : mg "len" = none) : FnG P w K mg base CX0 (2) f fd ["heap", "word", "places", "order", "free"] (spF K 5 (F_law_placed)) := by
  have scN := (sc_law_placed).nd
  have h1 : Fun K "_law_placed" "_law_placed" s_law_placed f fd := fun_of D
  have h2 := fun hb => fn_ok (P := P) (w := w) (mg := mg) (base := base) (m := m_law_placed) (k := 1) h1 sc_law_placed hb
  have h3 : spF K 5 (F_law_placed) = spF K 5 (runF 6 (m_law_placed)) := rfl
  rw [h3]
  refine h2 ?_
  intro cdv A outer s H E hr hgu
  exact (s_cons (s_asg (sl := [5]) (e_op op_fdiv oFdiv_ok (e_ty call_int1 fInt_ok rfl g_int PyProof.Rows.boot_int (a_cons (e_var 1) a_nil)) e_int) (g_name 5 scN))
    (s_cons (s_if (T.pt (tw_or (t_cmp (op_eqAll (u64 hr)) oEqA_ok (e_op op_mod oMod_ok (e_ty call_int1 fInt_ok rfl g_int PyProof.Rows.boot_int (a_cons (e_var 1) a_nil)) e_int) e_int) (tw_or1 (t_din hr (e_var 5) (e_var 2))))) (s_one (s_ret (e_var 4))) s_nil)
    (s_cons (s_asg (sl := []) (e_var 4) (g_sub (u1 hr) (e_var 2) (e_var 5)))
    (s_cons (s_ex (e_meth (T := .lst) mt_append mAppend_ok PySem.F.plainAttrs_list PySem.F.slot_list_append PySem.F.type_list_append (e_var 3) (a_cons (e_var 5) a_nil)))
    (s_one (s_ret (e_op op_addAll oAdd_ok (e_op op_addAll oAdd_ok (e_var 4) e_int) (e_bf cr_lenAll fLen_ok rfl g_len PySem.boot_len (a_cons (e_sub (e_call c_law_read hr hgu (by omega) rfl (a_cons (e_var 0) (a_cons (e_var 5) a_nil))) e_int) a_nil)))))))))
abbrev s_law_collected : Stmt := top 20
theorem sc_law_collected : FnScope ["heap", "room", "half", "words", "begin", "places", "order", "free", "word", "at", "found", "address", "sort", "extra", "fields", "row", "one"] ["heap", "room", "half", "words"] (defScope s_law_collected) := ⟨rfl, rfl, rfl, by decide +kernel, rfl, by decide +kernel, by decide +kernel⟩
theorem ok_law_collected (D : FnP K "_law_collected" s_law_collected f fd) (c_law_placed : ClG P w K mg base 2 "_law_placed" 5 G_law_placed) (c_law_read : ClG P w K mg base 1 "_law_read" 2 G_law_read) (g_len : mg "len" = none) (g_int : mg "int" = none) : FnG P w K mg base CX0 (3) f fd ["heap", "room", "half", "words"] (spF K 4 (F_law_collected)) := by
  have scN := (sc_law_collected).nd
  have h1 : Fun K "_law_collected" "_law_collected" s_law_collected f fd := fun_of D
  have h2 := fun hb => fn_ok (P := P) (w := w) (mg := mg) (base := base) (m := m_law_collected) (k := 2) h1 sc_law_collected hb
  have h3 : spF K 4 (F_law_collected) = spF K 4 (runF 17 (m_law_collected)) := rfl
  rw [h3]
  refine h2 ?_
  intro cdv A outer s H E hr hgu
  exact (s_cons (s_asg (sl := [4]) (e_op op_mulAll oMul_ok (e_op op_sub oSub_ok e_int (e_var 2)) (e_var 1)) (g_name 4 scN))
    (s_cons (s_asg (sl := [5, 6, 7]) (e_tup (a_cons (e_new f_dct0) (a_cons (e_new (f_lst a_nil)) (a_cons (e_var 4) a_nil)))) (g_tup (sl := [5, 6, 7]) rfl (gs_cons (sl := [5, 6, 7]) (sl1 := [5]) (sl2 := [6, 7]) (g_name 5 scN) (gs_cons (sl := [6, 7]) (sl1 := [6]) (sl2 := [7]) (g_name 6 scN) (gs_cons (sl := [7]) (sl1 := [7]) (sl2 := []) (g_name 7 scN) gs_nil)))))
    (s_cons (s_for (sl := [8]) PassesOwn.never rfl (i_seq (e_var 3)) (g_name 8 scN) (s_one (s_asg (sl := [7]) (e_call c_law_placed hr hgu (by omega) rfl (a_cons (e_var 0) (a_cons (e_var 8) (a_cons (e_var 5) (a_cons (e_var 6) (a_cons (e_var 7) a_nil)))))) (g_name 7 scN))))
    (s_cons (s_asg (sl := [9]) e_int (g_name 9 scN))
    (s_cons (s_while PassesOwn.never (t_cmp op_ltAll oCmp_ok (e_var 9) (e_bf cr_lenAll fLen_ok rfl g_len PySem.boot_len (a_cons (e_var 6) a_nil))) (s_cons (s_for (sl := [8]) PassesOwn.never rfl (i_seq (e_sub (e_call c_law_read hr hgu (by omega) rfl (a_cons (e_var 0) (a_cons (e_sub (e_var 6) (e_var 9)) a_nil))) e_int)) (g_name 8 scN) (s_one (s_asg (sl := [7]) (e_call c_law_placed hr hgu (by omega) rfl (a_cons (e_var 0) (a_cons (e_var 8) (a_cons (e_var 5) (a_cons (e_var 6) (a_cons (e_var 7) a_nil)))))) (g_name 7 scN))))
    (s_one (s_aug 9 scN ip_add fIp_ok e_int))))
    (s_cons (s_asg (sl := [10]) (e_new (f_op op_rep pRep_ok (e_val (f_lst (a_cons e_int a_nil))) (e_op op_mulAll oMul_ok e_int (e_var 1)))) (g_name 10 scN))
    (s_cons (s_for (sl := [11]) PassesOwn.never rfl (i_seq (e_var 6)) (g_name 11 scN) (s_cons (s_asg (sl := [12, 13, 14]) (e_call c_law_read hr hgu (by omega) rfl (a_cons (e_var 0) (a_cons (e_var 11) a_nil))) (g_tup (sl := [12, 13, 14]) rfl (gs_cons (sl := [12, 13, 14]) (sl1 := [12]) (sl2 := [13, 14]) (g_name 12 scN) (gs_cons (sl := [13, 14]) (sl1 := [13]) (sl2 := [14]) (g_name 13 scN) (gs_cons (sl := [14]) (sl1 := [14]) (sl2 := []) (g_name 14 scN) gs_nil)))))
    (s_cons (s_asg (sl := [15]) (e_op op_addAll oAdd_ok (e_val (f_lst (a_cons (e_sub (e_var 0) (e_var 11)) a_nil))) (e_val (f_lc (own := [(("one" : Str), 16)]) (sl := [16]) rfl scN (i_seq (e_var 14)) rfl (fun _ _ _ _ _ => (g_name 16 scN)) (fun _ _ _ _ _ => ts_nil) (fun _ _ _ _ _ => (e_if (t_cmp (op_eqAll (u64 hr)) oEqA_ok (e_op op_mod oMod_ok (e_ty call_int1 fInt_ok rfl g_int PyProof.Rows.boot_int (a_cons (e_var 16) a_nil)) e_int) e_int) (e_op op_mulAll oMul_ok e_int (e_dget hr (e_var 5) (e_op op_fdiv oFdiv_ok (e_ty call_int1 fInt_ok rfl g_int PyProof.Rows.boot_int (a_cons (e_var 16) a_nil)) e_int))) (e_var 16)))))) (g_name 15 scN))
    (s_one (s_asg (sl := []) (e_var 15) (g_slice (e_var 10) (e_dget hr (e_var 5) (e_var 11)) (e_op op_addAll oAdd_ok (e_dget hr (e_var 5) (e_var 11)) (e_bf cr_lenAll fLen_ok rfl g_len PySem.boot_len (a_cons (e_var 15) a_nil)))))))))
    (s_one (s_ret (e_tup (a_cons (e_var 10) (a_cons (e_var 7) (a_cons (e_val (f_lc (own := [(("one" : Str), 16)]) (sl := [16]) rfl scN (i_seq (e_var 3)) rfl (fun _ _ _ _ _ => (g_name 16 scN)) (fun _ _ _ _ _ => ts_nil) (fun _ _ _ _ _ => (e_if (t_cmp (op_eqAll (u64 hr)) oEqA_ok (e_op op_mod oMod_ok (e_ty call_int1 fInt_ok rfl g_int PyProof.Rows.boot_int (a_cons (e_var 16) a_nil)) e_int) e_int) (e_op op_mulAll oMul_ok e_int (e_dget hr (e_var 5) (e_op op_fdiv oFdiv_ok (e_ty call_int1 fInt_ok rfl g_int PyProof.Rows.boot_int (a_cons (e_var 16) a_nil)) e_int))) (e_var 16))))) a_nil)))))))))))))
abbrev s_law_sort_for : Stmt := top 22
theorem sc_law_sort_for : FnScope ["bag", "many", "extras", "sort"] ["bag", "many", "extras"] (defScope s_law_sort_for) := ⟨rfl, rfl, rfl, by decide +kernel, rfl, by decide +kernel, by decide +kernel⟩
theorem ok_law_sort_for (D : FnP K "_law_sort_for" s_law_sort_for f fd) (c_law_some : ClG P w K mg base 2 "_law_some" 2 G_law_some) : FnG P w K mg base CX0 (3) f fd ["bag", "many", "extras"] (spF K 3 (F_law_sort_for)) := by
  have scN := (sc_law_sort_for).nd
  have h1 : Fun K "_law_sort_for" "_law_sort_for" s_law_sort_for f fd := fun_of D
  have h2 := fun hb => fn_ok (P := P) (w := w) (mg := mg) (base := base) (m := m_law_sort_for) (k := 2) h1 sc_law_sort_for hb
  have h3 : spF K 3 (F_law_sort_for) = spF K 3 (runF 4 (m_law_sort_for)) := rfl
  rw [h3]
  refine h2 ?_
  intro cdv A outer s H E hr hgu
  exact (s_cons (s_asg (sl := [3]) (e_if (t_cmp (op_eqAll (u64 hr)) oEqA_ok (e_var 1) e_int) e_int (e_call c_law_some hr hgu (by omega) rfl (a_cons (e_var 0) (a_cons (e_val (f_if (t_cmp (op_eqAll (u64 hr)) oEqA_ok (e_var 1) e_int) (f_lst (a_cons e_int (a_cons e_int (a_cons e_int (a_cons e_int (a_cons e_int a_nil)))))) (f_lst (a_cons e_int (a_cons e_int (a_cons e_int a_nil)))))) a_nil)))) (g_name 3 scN))
    (s_one (s_ret (e_tup (a_cons (e_var 3) (a_cons (e_if (t_cmp (op_eqAll (u64 hr)) oEqA_ok (e_var 3) e_int) e_int (e_call c_law_some hr hgu (by omega) rfl (a_cons (e_var 0) (a_cons (e_var 2) a_nil)))) a_nil))))))
abbrev s_law_heap_drawn : Stmt := top 23
theorem sc_law_heap_drawn : FnScope ["bag", "sizes", "turn", "half", "room", "heap", "places", "at", "size", "place", "sort", "extra", "fields", "k"] ["bag"] (defScope s_law_heap_drawn) := ⟨rfl, rfl, rfl, by decide +kernel, rfl, by decide +kernel, by decide +kernel⟩
theorem ok_law_heap_drawn (D : FnP K "_law_heap_drawn" s_law_heap_drawn f fd) (c_law_some : ClG P w K mg base 2 "_law_some" 2 G_law_some) (c_law_take : ClG P w K mg base 1 "_law_take" 2 G_law_take) (c_law_sort_for : ClG P w K mg base 3 "_law_sort_for" 3 G_law_sort_for) (c_law_header : ClG P w K mg base 1 "_law_header" 3 G_law_header) (g_range : mg "range" = none) (g_sum : mg "sum" = none) (g_len : mg "len" = none) (g_zip : mg "zip" = none) (g_tuple : mg "tuple" = none) : FnG P w K mg base CX0 (4) f fd ["bag"] (spF K 1 (F_law_heap_drawn)) := by
  have scN := (sc_law_heap_drawn).nd
  have h1 : Fun K "_law_heap_drawn" "_law_heap_drawn" s_law_heap_drawn f fd := fun_of D
  have h2 := fun hb => fn_ok (P := P) (w := w) (mg := mg) (base := base) (m := m_law_heap_drawn) (k := 3) h1 sc_law_heap_drawn hb
  have h3 : spF K 1 (F_law_heap_drawn) = spF K 1 (runF 14 (m_law_heap_drawn)) := rfl
  rw [h3]
  refine h2 ?_
  intro cdv A outer s H E hr hgu
  exact (s_cons (set_lc (own := [(("turn" : Str), 2)]) (sl := [2]) rfl scN (i_range1 rfl g_range (a_cons (e_call c_law_some hr hgu (by omega) rfl (a_cons (e_var 0) (a_cons (e_val (f_lst (a_cons e_int (a_cons e_int (a_cons e_int (a_cons e_int (a_cons e_int a_nil))))))) a_nil))) a_nil)) rfl (fun _ _ _ _ _ => (g_name 2 scN)) (fun _ _ _ _ _ => ts_nil) (fun _ _ _ _ _ => (e_call c_law_take hr hgu (by omega) rfl (a_cons (e_var 0) (a_cons e_int a_nil)))) (.inl rfl) rfl rfl rfl)
    (s_cons (s_asg (sl := [3]) (e_call c_law_take hr hgu (by omega) rfl (a_cons (e_var 0) (a_cons e_int a_nil))) (g_name 3 scN))
    (s_cons (s_asg (sl := [4]) (e_op op_addAll oAdd_ok (e_op op_addAll oAdd_ok (e_bf (cr_sum rfl) fSum_ok rfl g_sum PyProof.Rows.boot_sum (a_cons (e_var 1) a_nil)) (e_bf cr_lenAll fLen_ok rfl g_len PySem.boot_len (a_cons (e_var 1) a_nil))) (e_call c_law_some hr hgu (by omega) rfl (a_cons (e_var 0) (a_cons (e_val (f_lst (a_cons e_int (a_cons e_int (a_cons e_int (a_cons e_int a_nil)))))) a_nil)))) (g_name 4 scN))
    (s_cons (s_par3 5 6 7 rfl scN (a_cons (e_new (f_op op_rep pRep_ok (e_val (f_lst (a_cons e_int a_nil))) (e_op op_mulAll oMul_ok e_int (e_var 4)))) (a_cons (e_new (f_lst a_nil)) (a_cons (e_op op_mulAll oMul_ok (e_var 3) (e_var 4)) a_nil))))
    (s_cons (s_for (sl := [8]) PassesOwn.never rfl (i_seq (e_var 1)) (g_name 8 scN) (s_cons (s_ex (e_meth (T := .lst) mt_append mAppend_ok PySem.F.plainAttrs_list PySem.F.slot_list_append PySem.F.type_list_append (e_var 6) (a_cons (e_var 7) a_nil)))
    (s_one (s_aug 7 scN ip_add fIp_ok (e_op op_addAll oAdd_ok e_int (e_var 8))))))
    (s_cons (s_for (sl := [9, 8]) PassesOwn.never rfl (i_zip rfl g_zip (a_cons (e_var 6) (a_cons (e_var 1) a_nil))) (g_tup (sl := [9, 8]) rfl (gs_cons (sl := [9, 8]) (sl1 := [9]) (sl2 := [8]) (g_name 9 scN) (gs_cons (sl := [8]) (sl1 := [8]) (sl2 := []) (g_name 8 scN) gs_nil))) (s_cons (s_asg (sl := [10, 11]) (e_call c_law_sort_for hr hgu (by omega) rfl (a_cons (e_var 0) (a_cons (e_var 8) (a_cons (e_val (f_lst (a_cons e_int (a_cons e_int (a_cons e_int (a_cons e_int a_nil)))))) a_nil)))) (g_tup (sl := [10, 11]) rfl (gs_cons (sl := [10, 11]) (sl1 := [10]) (sl2 := [11]) (g_name 10 scN) (gs_cons (sl := [11]) (sl1 := [11]) (sl2 := []) (g_name 11 scN) gs_nil))))
    (s_cons (s_asg (sl := [12]) (e_new (f_lst a_nil)) (g_name 12 scN))
    (s_cons (s_for (sl := [13]) PassesOwn.never rfl (i_range1 rfl g_range (a_cons (e_var 8) a_nil)) (g_name 13 scN) (s_one (s_ex (e_meth (T := .lst) mt_append mAppend_ok PySem.F.plainAttrs_list PySem.F.slot_list_append PySem.F.type_list_append (e_var 12) (a_cons (e_if (t_cmp op_gtAll oCmp_ok (e_call c_law_take hr hgu (by omega) rfl (a_cons (e_var 0) (a_cons e_int a_nil))) e_int) (e_op op_mulAll oMul_ok e_int (e_call c_law_some hr hgu (by omega) rfl (a_cons (e_var 0) (a_cons (e_var 6) a_nil)))) (e_call c_law_some hr hgu (by omega) rfl (a_cons (e_var 0) (a_cons (e_val (f_lst (a_cons e_int (a_cons e_int (a_cons e_int (a_cons (e_un un_neg oNeg_ok e_int) a_nil)))))) a_nil)))) a_nil)))))
    (s_one (s_asg (sl := []) (e_op op_addAll oAdd_ok (e_val (f_lst (a_cons (e_call c_law_header hr hgu (by omega) rfl (a_cons (e_var 10) (a_cons (e_var 11) (a_cons (e_var 8) a_nil)))) a_nil))) (e_var 12)) (g_slice (e_var 5) (e_var 9) (e_op op_addAll oAdd_ok (e_op op_addAll oAdd_ok (e_var 9) e_int) (e_var 8)))))))))
    (s_one (s_ret (e_tup (a_cons (e_ty call_tuple_of fTuple_ok rfl g_tuple PyProof.Rows.boot_tuple (a_cons (e_var 5) a_nil)) (a_cons (e_var 4) (a_cons (e_var 3) (a_cons (e_var 6) a_nil)))))))))))))
abbrev s_law_shape : Stmt := top 24
theorem sc_law_shape : FnScope ["heap", "words", "met", "found", "line", "word", "sort", "extra", "fields"] ["heap", "words"] (defScope s_law_shape) := ⟨rfl, rfl, rfl, by decide +kernel, rfl, by decide +kernel, by decide +kernel⟩
theorem ok_law_shape (D : FnP K "_law_shape" s_law_shape f fd) (c_law_read : ClG P w K mg base 1 "_law_read" 2 G_law_read) (g_list : mg "list" = none) (g_int : mg "int" = none) (g_len : mg "len" = none) : FnG P w K mg base CX0 (2) f fd ["heap", "words"] (spF K 2 (F_law_shape)) := by
  have scN := (sc_law_shape).nd
  have h1 : Fun K "_law_shape" "_law_shape" s_law_shape f fd := fun_of D
  have h2 := fun hb => fn_ok (P := P) (w := w) (mg := mg) (base := base) (m := m_law_shape) (k := 1) h1 sc_law_shape hb
  have h3 : spF K 2 (F_law_shape) = spF K 2 (runF 9 (m_law_shape)) := rfl
  rw [h3]
  refine h2 ?_
  intro cdv A outer s H E hr hgu
  exact (s_cons (s_par3 2 3 4 rfl scN (a_cons (e_new f_dct0) (a_cons (e_new (f_lst a_nil)) (a_cons (e_new (f_ty call_list_of oList_ok rfl g_list PyProof.Rows.boot_list (a_cons (e_var 1) a_nil))) a_nil))))
    (s_cons (s_while PassesOwn.never (t_cmp (op_neD (u64 hr)) oNe_ok (e_var 4) (e_val (f_lst a_nil))) (s_cons (s_asg (sl := [5]) (e_meth (T := .lst) mt_popAll mPop_ok PySem.F.plainAttrs_list PySem.F.slot_list_pop PySem.F.type_list_pop (e_var 4) (a_cons e_int a_nil)) (g_name 5 scN))
    (s_one (s_if (t_cmp (op_eqAll (u64 hr)) oEqA_ok (e_op op_mod oMod_ok (e_ty call_int1 fInt_ok rfl g_int PyProof.Rows.boot_int (a_cons (e_var 5) a_nil)) e_int) e_int) (s_one (s_ex (e_meth (T := .lst) mt_append mAppend_ok PySem.F.plainAttrs_list PySem.F.slot_list_append PySem.F.type_list_append (e_var 3) (a_cons (e_var 5) a_nil)))) (s_one (s_if (t_din hr (e_var 5) (e_var 2)) (s_one (s_ex (e_meth (T := .lst) mt_append mAppend_ok PySem.F.plainAttrs_list PySem.F.slot_list_append PySem.F.type_list_append (e_var 3) (a_cons (e_tup (a_cons e_str (a_cons (e_dget hr (e_var 2) (e_var 5)) a_nil))) a_nil)))) (s_cons (s_asg (sl := []) (e_bf cr_lenAll fLen_ok rfl g_len PySem.boot_len (a_cons (e_var 2) a_nil)) (g_sub (u1 hr) (e_var 2) (e_var 5)))
    (s_cons (s_asg (sl := [6, 7, 8]) (e_call c_law_read hr hgu (by omega) rfl (a_cons (e_var 0) (a_cons (e_op op_fdiv oFdiv_ok (e_ty call_int1 fInt_ok rfl g_int PyProof.Rows.boot_int (a_cons (e_var 5) a_nil)) e_int) a_nil))) (g_tup (sl := [6, 7, 8]) rfl (gs_cons (sl := [6, 7, 8]) (sl1 := [6]) (sl2 := [7, 8]) (g_name 6 scN) (gs_cons (sl := [7, 8]) (sl1 := [7]) (sl2 := [8]) (g_name 7 scN) (gs_cons (sl := [8]) (sl1 := [8]) (sl2 := []) (g_name 8 scN) gs_nil)))))
    (s_cons (s_ex (e_meth (T := .lst) mt_append mAppend_ok PySem.F.plainAttrs_list PySem.F.slot_list_append PySem.F.type_list_append (e_var 3) (a_cons (e_tup (a_cons (e_var 6) (a_cons (e_var 7) (a_cons (e_bf cr_lenAll fLen_ok rfl g_len PySem.boot_len (a_cons (e_var 8) a_nil)) a_nil)))) a_nil)))
    (s_one (s_ex (e_meth (T := .lst) mt_extendAll mExtend_ok PySem.F.plainAttrs_list PySem.F.slot_list_extend PySem.F.type_list_extend (e_var 4) (a_cons (e_val (f_ty call_list_of oList_ok rfl g_list PyProof.Rows.boot_list (a_cons (e_var 8) a_nil))) a_nil)))))))))))))
    (s_one (s_ret (e_var 3)))))
abbrev s_law_is_chain_right : Stmt := top 25
theorem sc_law_is_chain_right : FnScope ["many", "room", "heap", "due", "at"] ["many"] (defScope s_law_is_chain_right) := ⟨rfl, rfl, rfl, by decide +kernel, rfl, by decide +kernel, by decide +kernel⟩
theorem ok_law_is_chain_right (D : FnP K "_law_is_chain_right" s_law_is_chain_right f fd) (c_law_header : ClG P w K mg base 1 "_law_header" 3 G_law_header) (c_law_alike : ClG P w K mg base 1 "_law_alike" 2 G_law_alike) (c_reached_words : ClG P w K mg base 4 "reached_words" 2 G_reached_words) (c_reached : ClG P w K mg base 3 "reached" 2 G_reached) (c_collected : ClG P w K mg base 4 "collected" 4 G_collected) (g_range : mg "range" = none) (g_tuple : mg "tuple" = none) : FnG P w K mg base CX0 (5) f fd ["many"] (spF K 1 (F_law_is_chain_right)) := by
  have scN := (sc_law_is_chain_right).nd
  have h1 : Fun K "_law_is_chain_right" "_law_is_chain_right" s_law_is_chain_right f fd := fun_of D
  have h2 := fun hb => fn_ok (P := P) (w := w) (mg := mg) (base := base) (m := m_law_is_chain_right) (k := 4) h1 sc_law_is_chain_right hb
  have h3 : spF K 1 (F_law_is_chain_right) = spF K 1 (runF 5 (m_law_is_chain_right)) := rfl
  rw [h3]
  refine h2 ?_
  intro cdv A outer s H E hr hgu
  exact (s_cons (s_par3 1 2 3 rfl scN (a_cons (e_op op_mulAll oMul_ok e_int (e_var 0)) (a_cons (e_new (f_lst a_nil)) (a_cons (e_new (f_lst a_nil)) a_nil))))
    (s_cons (s_for (sl := [4]) PassesOwn.never rfl (i_range1 rfl g_range (a_cons (e_var 0) a_nil)) (g_name 4 scN) (s_cons (s_ex (e_meth (T := .lst) mt_extendAll mExtend_ok PySem.F.plainAttrs_list PySem.F.slot_list_extend PySem.F.type_list_extend (e_var 2) (a_cons (e_val (f_lst (a_cons (e_call c_law_header hr hgu (by omega) rfl (a_cons e_int (a_cons (e_var 4) (a_cons e_int a_nil)))) (a_cons (e_if (t_cmp op_ltAll oCmp_ok (e_op op_addAll oAdd_ok (e_var 4) e_int) (e_var 0)) (e_op op_mulAll oMul_ok e_int (e_op op_addAll oAdd_ok (e_var 4) e_int)) e_int) a_nil)))) a_nil)))
    (s_one (s_ex (e_meth (T := .lst) mt_extendAll mExtend_ok PySem.F.plainAttrs_list PySem.F.slot_list_extend PySem.F.type_list_extend (e_var 3) (a_cons (e_val (f_lst (a_cons (e_call c_law_header hr hgu (by omega) rfl (a_cons e_int (a_cons (e_var 4) (a_cons e_int a_nil)))) (a_cons (e_if (t_cmp op_ltAll oCmp_ok (e_op op_addAll oAdd_ok (e_var 4) e_int) (e_var 0)) (e_op op_addAll oAdd_ok (e_op op_mulAll oMul_ok e_int (e_var 1)) (e_op op_mulAll oMul_ok e_int (e_op op_addAll oAdd_ok (e_var 4) e_int))) e_int) a_nil)))) a_nil))))))
    (s_cons (s_par 2 3 rfl scN (a_cons (e_op op_addAll oAdd_ok (e_ty call_tuple_of fTuple_ok rfl g_tuple PyProof.Rows.boot_tuple (a_cons (e_var 2) a_nil)) (e_op op_mulAll oMul_ok (e_tup (a_cons e_int a_nil)) (e_var 1))) (a_cons (e_op op_addAll oAdd_ok (e_op op_mulAll oMul_ok (e_tup (a_cons e_int a_nil)) (e_var 1)) (e_ty call_tuple_of fTuple_ok rfl g_tuple PyProof.Rows.boot_tuple (a_cons (e_var 3) a_nil))) a_nil)))
    (s_cons (s_if (t_not (t_tru (e_call c_law_alike hr hgu (by omega) rfl (a_cons (e_val (f_lst (a_cons (e_call c_reached hr hgu (by omega) rfl (a_cons (e_var 2) (a_cons (e_tup (a_cons e_int a_nil)) a_nil))) (a_cons (e_call c_reached_words hr hgu (by omega) rfl (a_cons (e_var 2) (a_cons (e_tup (a_cons e_int a_nil)) a_nil))) a_nil)))) (a_cons (e_val (f_lst (a_cons (e_tupRn rfl rfl g_tuple (rn_3 rfl g_range (a_cons e_int (a_cons (e_var 1) (a_cons e_int a_nil))))) (a_cons (e_var 1) a_nil)))) a_nil))))) (s_one (s_ret e_bl)) s_nil)
    (s_one (s_ret (e_call c_law_alike hr hgu (by omega) rfl (a_cons (e_call c_collected hr hgu (by omega) rfl (a_cons (e_var 2) (a_cons (e_var 1) (a_cons e_int (a_cons (e_tup (a_cons e_int a_nil)) a_nil))))) (a_cons (e_tup (a_cons (e_var 3) (a_cons (e_op op_mulAll oMul_ok e_int (e_var 1)) (a_cons (e_tup (a_cons (e_op op_mulAll oMul_ok e_int (e_var 1)) a_nil)) a_nil)))) a_nil)))))))))
abbrev s_law : Stmt := top 26
theorem sc_law : FnScope ["script", "bag", "turn", "heap", "room", "half", "places", "roots", "k", "shown", "some", "words", "due", "told", "again", "address"] ["script"] (defScope s_law) := ⟨rfl, rfl, rfl, by decide +kernel, rfl, by decide +kernel, by decide +kernel⟩
theorem ok_law (D : FnP K "law" s_law f fd) (c_law_bag : ClG P w K mg base 1 "_law_bag" 1 G_law_bag) (c_law_is_chain_right : ClG P w K mg base 5 "_law_is_chain_right" 1 G_law_is_chain_right) (c_law_some : ClG P w K mg base 2 "_law_some" 2 G_law_some) (c_law_take : ClG P w K mg base 1 "_law_take" 2 G_law_take) (c_law_heap_drawn : ClG P w K mg base 4 "_law_heap_drawn" 1 G_law_heap_drawn) (c_law_reached : ClG P w K mg base 2 "_law_reached" 2 G_law_reached) (c_law_read : ClG P w K mg base 1 "_law_read" 2 G_law_read) (c_law_alike : ClG P w K mg base 1 "_law_alike" 2 G_law_alike) (c_reached_words : ClG P w K mg base 4 "reached_words" 2 G_reached_words) (c_reached : ClG P w K mg base 3 "reached" 2 G_reached) (c_law_collected : ClG P w K mg base 3 "_law_collected" 4 G_law_collected) (c_collected : ClG P w K mg base 4 "collected" 4 G_collected) (c_law_shape : ClG P w K mg base 2 "_law_shape" 2 G_law_shape) (g_range : mg "range" = none) (g_repr : mg "repr" = none) (g_len : mg "len" = none) (g_sum : mg "sum" = none) (g_tuple : mg "tuple" = none) (g_list : mg "list" = none) : FnG P w K mg base CX0 (6) f fd ["script"] (spF K 1 (F_law)) := by
  have scN := (sc_law).nd
  have h1 : Fun K "law" "law" s_law f fd := fun_of D
  have h2 := fun hb => fn_ok (P := P) (w := w) (mg := mg) (base := base) (m := m_law) (k := 5) h1 sc_law hb
  have h3 : spF K 1 (F_law) = spF K 1 (runF 16 (m_law)) := rfl
  rw [h3]
  refine h2 ?_
  intro cdv A outer s H E hr hgu
  exact (s_cons (s_asg (sl := [1]) (e_call c_law_bag hr hgu (by omega) rfl (a_cons (e_var 0) a_nil)) (g_name 1 scN))
    (s_cons (s_if (T.pt (tw_and (t_cmp (op_eqAll (u64 hr)) oEqA_ok (e_call c_law_take hr hgu (by omega) rfl (a_cons (e_var 1) (a_cons e_int a_nil))) e_int) (tw_and1 (t_not (t_tru (e_call c_law_is_chain_right hr hgu (by omega) rfl (a_cons (e_call c_law_some hr hgu (by omega) rfl (a_cons (e_var 1) (a_cons (e_val (f_lst (a_cons e_int (a_cons e_int a_nil)))) a_nil))) a_nil))))))) (s_one (s_ret e_bl)) s_nil)
    (s_cons (s_for (sl := [2]) PassesOwn.never rfl (i_range1 rfl g_range (a_cons e_int a_nil)) (g_name 2 scN) (s_cons (s_asg (sl := [3, 4, 5, 6]) (e_call c_law_heap_drawn hr hgu (by omega) rfl (a_cons (e_var 1) a_nil)) (g_tup (sl := [3, 4, 5, 6]) rfl (gs_cons (sl := [3, 4, 5, 6]) (sl1 := [3]) (sl2 := [4, 5, 6]) (g_name 3 scN) (gs_cons (sl := [4, 5, 6]) (sl1 := [4]) (sl2 := [5, 6]) (g_name 4 scN) (gs_cons (sl := [5, 6]) (sl1 := [5]) (sl2 := [6]) (g_name 5 scN) (gs_cons (sl := [6]) (sl1 := [6]) (sl2 := []) (g_name 6 scN) gs_nil))))))
    (s_cons (s_asg (sl := [7]) (e_tup a_nil) (g_name 7 scN))
    (s_cons (s_for (sl := [8]) PassesOwn.never rfl (i_range1 rfl g_range (a_cons (e_call c_law_take hr hgu (by omega) rfl (a_cons (e_var 1) (a_cons e_int a_nil))) a_nil)) (g_name 8 scN) (s_one (s_asg (sl := [7]) (e_op op_addAll oAdd_ok (e_var 7) (e_tup (a_cons (e_if (T.pt (tw_and (t_cmp (op_neD (u64 hr)) oNe_ok (e_var 6) (e_val (f_lst a_nil))) (tw_and1 (t_cmp op_gtAll oCmp_ok (e_call c_law_take hr hgu (by omega) rfl (a_cons (e_var 1) (a_cons e_int a_nil))) e_int)))) (e_op op_mulAll oMul_ok e_int (e_call c_law_some hr hgu (by omega) rfl (a_cons (e_var 1) (a_cons (e_var 6) a_nil)))) e_int) a_nil))) (g_name 7 scN))))
    (s_cons (s_par 9 10 rfl scN (a_cons (e_bf (cr_reprAll hgu (u66 hr)) fRepr_ok rfl g_repr PyProof.Rows.boot_repr (a_cons (e_val (f_lst (a_cons (e_var 3) (a_cons (e_var 7) a_nil)))) a_nil)) (a_cons (e_call c_law_reached hr hgu (by omega) rfl (a_cons (e_var 3) (a_cons (e_var 7) a_nil))) a_nil)))
    (s_cons (s_asg (sl := [11]) (e_bf (cr_sum rfl) fSum_ok rfl g_sum PyProof.Rows.boot_sum (a_cons (e_val (f_lc (own := [(("address" : Str), 15)]) (sl := [15]) rfl scN (i_seq (e_var 10)) rfl (fun _ _ _ _ _ => (g_name 15 scN)) (fun _ _ _ _ _ => ts_nil) (fun _ _ _ _ _ => (e_op op_addAll oAdd_ok e_int (e_bf cr_lenAll fLen_ok rfl g_len PySem.boot_len (a_cons (e_sub (e_call c_law_read hr hgu (by omega) rfl (a_cons (e_var 3) (a_cons (e_var 15) a_nil))) e_int) a_nil)))))) a_nil)) (g_name 11 scN))
    (s_cons (s_if (t_not (t_tru (e_call c_law_alike hr hgu (by omega) rfl (a_cons (e_val (f_lst (a_cons (e_call c_reached hr hgu (by omega) rfl (a_cons (e_var 3) (a_cons (e_var 7) a_nil))) (a_cons (e_call c_reached_words hr hgu (by omega) rfl (a_cons (e_var 3) (a_cons (e_var 7) a_nil))) a_nil)))) (a_cons (e_val (f_lst (a_cons (e_ty call_tuple_of fTuple_ok rfl g_tuple PyProof.Rows.boot_tuple (a_cons (e_var 10) a_nil)) (a_cons (e_var 11) a_nil)))) a_nil))))) (s_one (s_ret e_bl)) s_nil)
    (s_cons (s_asg (sl := [12]) (e_call c_law_collected hr hgu (by omega) rfl (a_cons (e_var 3) (a_cons (e_var 4) (a_cons (e_var 5) (a_cons (e_val (f_ty call_list_of oList_ok rfl g_list PyProof.Rows.boot_list (a_cons (e_var 7) a_nil))) a_nil))))) (g_name 12 scN))
    (s_cons (s_asg (sl := [13]) (e_call c_collected hr hgu (by omega) rfl (a_cons (e_var 3) (a_cons (e_var 4) (a_cons (e_var 5) (a_cons (e_var 7) a_nil))))) (g_name 13 scN))
    (s_cons (s_if (t_not (t_tru (e_call c_law_alike hr hgu (by omega) rfl (a_cons (e_var 13) (a_cons (e_tup (a_cons (e_ty call_tuple_of fTuple_ok rfl g_tuple PyProof.Rows.boot_tuple (a_cons (e_sub (e_var 12) e_int) a_nil)) (a_cons (e_sub (e_var 12) e_int) (a_cons (e_ty call_tuple_of fTuple_ok rfl g_tuple PyProof.Rows.boot_tuple (a_cons (e_sub (e_var 12) e_int) a_nil)) a_nil)))) a_nil))))) (s_one (s_ret e_bl)) s_nil)
    (s_cons (s_if (T.pt (tw_or (t_cmp (op_neD (u64 hr)) oNe_ok (e_call c_law_shape hr hgu (by omega) rfl (a_cons (e_sub (e_var 13) e_int) (a_cons (e_sub (e_var 13) e_int) a_nil))) (e_call c_law_shape hr hgu (by omega) rfl (a_cons (e_var 3) (a_cons (e_var 7) a_nil)))) (tw_or1 (t_cmp (op_neD (u64 hr)) oNe_ok (e_sub (e_var 13) e_int) (e_op op_addAll oAdd_ok (e_op op_mulAll oMul_ok (e_op op_sub oSub_ok e_int (e_var 5)) (e_var 4)) (e_var 11)))))) (s_one (s_ret e_bl)) s_nil)
    (s_cons (s_if (t_not (t_tru (e_call c_law_alike hr hgu (by omega) rfl (a_cons (e_call c_reached_words hr hgu (by omega) rfl (a_cons (e_sub (e_var 13) e_int) (a_cons (e_sub (e_var 13) e_int) a_nil))) (a_cons (e_var 11) a_nil))))) (s_one (s_ret e_bl)) s_nil)
    (s_cons (s_asg (sl := [14]) (e_call c_collected hr hgu (by omega) rfl (a_cons (e_sub (e_var 13) e_int) (a_cons (e_var 4) (a_cons (e_op op_sub oSub_ok e_int (e_var 5)) (a_cons (e_sub (e_var 13) e_int) a_nil))))) (g_name 14 scN))
    (s_cons (s_if (T.pt (tw_or (t_cmp (op_neD (u64 hr)) oNe_ok (e_sub (e_var 14) e_int) (e_op op_addAll oAdd_ok (e_op op_mulAll oMul_ok (e_var 5) (e_var 4)) (e_var 11))) (tw_or1 (t_cmp (op_neD (u64 hr)) oNe_ok (e_call c_law_shape hr hgu (by omega) rfl (a_cons (e_sub (e_var 14) e_int) (a_cons (e_sub (e_var 14) e_int) a_nil))) (e_call c_law_shape hr hgu (by omega) rfl (a_cons (e_var 3) (a_cons (e_var 7) a_nil))))))) (s_one (s_ret e_bl)) s_nil)
    (s_one (s_if (t_cmp (op_neAll (u64 hr)) oNeA_ok (e_bf (cr_reprAll hgu (u66 hr)) fRepr_ok rfl g_repr PyProof.Rows.boot_repr (a_cons (e_val (f_lst (a_cons (e_var 3) (a_cons (e_var 7) a_nil)))) a_nil)) (e_var 9)) (s_one (s_ret e_bl)) s_nil))))))))))))))))
    (s_one (s_ret e_bl)))))
end

end K69
end FW

set_option maxHeartbeats 4000000
namespace FW
namespace K69
open PySem PySem.Spec PyProof.Rows L2
def dd (x : Str) (i : Nat) : He.DefD := ⟨(x, none), x, x, defArgs (top i), defBody (top i), defScope (top i), [], []⟩
def fn : List He.DefD := [dd "read_header" 1, dd "many_of" 2, dd "size_at" 3, dd "object_at" 4, dd "reached" 6, dd "reached_words" 7, dd "moved_word" 8, dd "gathered" 9, dd "spread" 10, dd "collected" 11, dd "_law_bag" 13, dd "_law_take" 14, dd "_law_some" 15, dd "_law_alike" 16, dd "_law_header" 17, dd "_law_read" 18, dd "_law_reached" 19, dd "_law_placed" 21, dd "_law_collected" 20, dd "_law_sort_for" 22, dd "_law_heap_drawn" 23, dd "_law_shape" 24, dd "_law_is_chain_right" 25, dd "law" 26]
def fa : List He.Fa := [.glo "read_header", .glo "many_of", .glo "size_at", .glo "object_at", .glo "reached", .glo "reached_words", .glo "moved_word", .glo "gathered", .glo "spread", .glo "collected", .glo "_law_bag", .glo "_law_take", .glo "_law_some", .glo "_law_alike", .glo "_law_header", .glo "_law_read", .glo "_law_reached", .glo "_law_placed", .glo "_law_collected", .glo "_law_sort_for", .glo "_law_heap_drawn", .glo "_law_shape", .glo "_law_is_chain_right", .glo "law", .free "tuple", .free "list", .free "sorted", .free "sum", .free "len", .free "range", .free "abs", .free "int", .free "repr", .free "zip"]
abbrev R : PySem.W.OpenRow := PySem.W.OpenLaw.row PySem.Challenge.rw_swornapart_k69_collections_by_shapes
abbrev hk : PySem.W.Hook := hookL 4 fa fn
def ob (s : PySem.W.SharedT) : He.AlD := obsL 4 fa fn (HandSHeadRun.getT s)
theorem ob_eq (s : PySem.W.SharedT) : ob s = hk.obs s.abs := obsL_eq (HandSHeadRun.getT_eq s)
def loose : List Str := ["read_header", "many_of", "size_at", "object_at", "reached", "reached_words", "moved_word", "gathered", "spread", "collected", "_law_bag", "_law_take", "_law_some", "_law_alike", "_law_header", "_law_read", "_law_reached", "_law_placed", "_law_collected", "_law_sort_for", "_law_heap_drawn", "_law_shape", "_law_is_chain_right"]
theorem run (w : World) : HandSHeadRun.RunEq R (PySem.W.view R.prog [26]) hk ob 2000 loose w := by
  intro os
  kernel_rfl
theorem facts {P : Program} {w : World} {K : PySem.W.Frag} {h : Heap} {mg : Str → Option Value} {f : Addr} (X : K.In h) (G : h.Ns mainGlobals mg) (hfa : mg ("law" : Str) = some (.ref f)) (c : He.SaysD fa fn K) :
    ∃ fd : FuncData, (∀ (s : Shared) (v : Value), BindsTo s fd ⟨[v], []⟩ [("script", v)]) ∧ ∀ base : Heap, K.In base → base.Ns mainGlobals mg → FnG P w K mg base CX0 6 f fd ["script"] (spF K 1 F_law) := by
  obtain ⟨fd_read_header, D_read_header⟩ : ∃ fd, FnP K "read_header" s_read_header (He.ga K "read_header") fd := c.def_ 0 (d := dd "read_header" 1) rfl
  obtain ⟨fd_many_of, D_many_of⟩ : ∃ fd, FnP K "many_of" s_many_of (He.ga K "many_of") fd := c.def_ 1 (d := dd "many_of" 2) rfl
  obtain ⟨fd_size_at, D_size_at⟩ : ∃ fd, FnP K "size_at" s_size_at (He.ga K "size_at") fd := c.def_ 2 (d := dd "size_at" 3) rfl
  obtain ⟨fd_object_at, D_object_at⟩ : ∃ fd, FnP K "object_at" s_object_at (He.ga K "object_at") fd := c.def_ 3 (d := dd "object_at" 4) rfl
  obtain ⟨fd_reached, D_reached⟩ : ∃ fd, FnP K "reached" s_reached (He.ga K "reached") fd := c.def_ 4 (d := dd "reached" 6) rfl
  obtain ⟨fd_reached_words, D_reached_words⟩ : ∃ fd, FnP K "reached_words" s_reached_words (He.ga K "reached_words") fd := c.def_ 5 (d := dd "reached_words" 7) rfl
  obtain ⟨fd_moved_word, D_moved_word⟩ : ∃ fd, FnP K "moved_word" s_moved_word (He.ga K "moved_word") fd := c.def_ 6 (d := dd "moved_word" 8) rfl
  obtain ⟨fd_gathered, D_gathered⟩ : ∃ fd, FnP K "gathered" s_gathered (He.ga K "gathered") fd := c.def_ 7 (d := dd "gathered" 9) rfl
  obtain ⟨fd_spread, D_spread⟩ : ∃ fd, FnP K "spread" s_spread (He.ga K "spread") fd := c.def_ 8 (d := dd "spread" 10) rfl
  obtain ⟨fd_collected, D_collected⟩ : ∃ fd, FnP K "collected" s_collected (He.ga K "collected") fd := c.def_ 9 (d := dd "collected" 11) rfl
  obtain ⟨fd_law_bag, D_law_bag⟩ : ∃ fd, FnP K "_law_bag" s_law_bag (He.ga K "_law_bag") fd := c.def_ 10 (d := dd "_law_bag" 13) rfl
  obtain ⟨fd_law_take, D_law_take⟩ : ∃ fd, FnP K "_law_take" s_law_take (He.ga K "_law_take") fd := c.def_ 11 (d := dd "_law_take" 14) rfl
  obtain ⟨fd_law_some, D_law_some⟩ : ∃ fd, FnP K "_law_some" s_law_some (He.ga K "_law_some") fd := c.def_ 12 (d := dd "_law_some" 15) rfl
  obtain ⟨fd_law_alike, D_law_alike⟩ : ∃ fd, FnP K "_law_alike" s_law_alike (He.ga K "_law_alike") fd := c.def_ 13 (d := dd "_law_alike" 16) rfl
  obtain ⟨fd_law_header, D_law_header⟩ : ∃ fd, FnP K "_law_header" s_law_header (He.ga K "_law_header") fd := c.def_ 14 (d := dd "_law_header" 17) rfl
  obtain ⟨fd_law_read, D_law_read⟩ : ∃ fd, FnP K "_law_read" s_law_read (He.ga K "_law_read") fd := c.def_ 15 (d := dd "_law_read" 18) rfl
  obtain ⟨fd_law_reached, D_law_reached⟩ : ∃ fd, FnP K "_law_reached" s_law_reached (He.ga K "_law_reached") fd := c.def_ 16 (d := dd "_law_reached" 19) rfl
  obtain ⟨fd_law_placed, D_law_placed⟩ : ∃ fd, FnP K "_law_placed" s_law_placed (He.ga K "_law_placed") fd := c.def_ 17 (d := dd "_law_placed" 21) rfl
  obtain ⟨fd_law_collected, D_law_collected⟩ : ∃ fd, FnP K "_law_collected" s_law_collected (He.ga K "_law_collected") fd := c.def_ 18 (d := dd "_law_collected" 20) rfl
  obtain ⟨fd_law_sort_for, D_law_sort_for⟩ : ∃ fd, FnP K "_law_sort_for" s_law_sort_for (He.ga K "_law_sort_for") fd := c.def_ 19 (d := dd "_law_sort_for" 22) rfl
  obtain ⟨fd_law_heap_drawn, D_law_heap_drawn⟩ : ∃ fd, FnP K "_law_heap_drawn" s_law_heap_drawn (He.ga K "_law_heap_drawn") fd := c.def_ 20 (d := dd "_law_heap_drawn" 23) rfl
  obtain ⟨fd_law_shape, D_law_shape⟩ : ∃ fd, FnP K "_law_shape" s_law_shape (He.ga K "_law_shape") fd := c.def_ 21 (d := dd "_law_shape" 24) rfl
  obtain ⟨fd_law_is_chain_right, D_law_is_chain_right⟩ : ∃ fd, FnP K "_law_is_chain_right" s_law_is_chain_right (He.ga K "_law_is_chain_right") fd := c.def_ 22 (d := dd "_law_is_chain_right" 25) rfl
  obtain ⟨fd_law, D_law⟩ : ∃ fd, FnP K "law" s_law (He.ga K "law") fd := c.def_ 23 (d := dd "law" 26) rfl
  have e := hfa.symm.trans (He.glo_ok X G (c.fact 23 (f := .glo "law") rfl))
  cases e
  have b := FunD.bindsA (ps := ["script"]) D_law fun _ _ _ _ _ _ us hl => match us, hl with | [_], _ => rfl
  have g_tuple := He.free_ok X G (c.fact 24 (f := .free "tuple") rfl)
  have g_list := He.free_ok X G (c.fact 25 (f := .free "list") rfl)
  have g_sorted := He.free_ok X G (c.fact 26 (f := .free "sorted") rfl)
  have g_sum := He.free_ok X G (c.fact 27 (f := .free "sum") rfl)
  have g_len := He.free_ok X G (c.fact 28 (f := .free "len") rfl)
  have g_range := He.free_ok X G (c.fact 29 (f := .free "range") rfl)
  have g_abs := He.free_ok X G (c.fact 30 (f := .free "abs") rfl)
  have g_int := He.free_ok X G (c.fact 31 (f := .free "int") rfl)
  have g_repr := He.free_ok X G (c.fact 32 (f := .free "repr") rfl)
  have g_zip := He.free_ok X G (c.fact 33 (f := .free "zip") rfl)
  refine ⟨fd_law, fun s v => b s [v] rfl, fun base _ _ => ?_⟩
  have c_read_header : ClG P w K mg base 1 "read_header" 1 G_read_header := cl_of D_read_header (He.glo_ok X G (c.fact 0 (f := .glo "read_header") rfl)) (ok_read_header D_read_header) (fun _ _ _ _ _ _ us hl => match us, hl with | [_], _ => rfl)
  have c_many_of : ClG P w K mg base 1 "many_of" 1 G_many_of := cl_of D_many_of (He.glo_ok X G (c.fact 1 (f := .glo "many_of") rfl)) (ok_many_of D_many_of) (fun _ _ _ _ _ _ us hl => match us, hl with | [_], _ => rfl)
  have c_size_at : ClG P w K mg base 2 "size_at" 2 G_size_at := cl_of D_size_at (He.glo_ok X G (c.fact 2 (f := .glo "size_at") rfl)) (ok_size_at D_size_at c_many_of) (fun _ _ _ _ _ _ us hl => match us, hl with | [_, _], _ => rfl)
  have c_object_at : ClG P w K mg base 2 "object_at" 2 G_object_at := cl_of D_object_at (He.glo_ok X G (c.fact 3 (f := .glo "object_at") rfl)) (ok_object_at D_object_at c_read_header g_tuple) (fun _ _ _ _ _ _ us hl => match us, hl with | [_, _], _ => rfl)
  have c_reached : ClG P w K mg base 3 "reached" 2 G_reached := cl_tell (cl_of D_reached (He.glo_ok X G (c.fact 4 (f := .glo "reached") rfl)) (ok_reached D_reached c_object_at g_list g_sorted g_tuple) (fun _ _ _ _ _ _ us hl => match us, hl with | [_, _], _ => rfl)) tell_ok
  have c_reached_words : ClG P w K mg base 4 "reached_words" 2 G_reached_words := cl_of D_reached_words (He.glo_ok X G (c.fact 5 (f := .glo "reached_words") rfl)) (ok_reached_words D_reached_words c_reached c_size_at g_sum) (fun _ _ _ _ _ _ us hl => match us, hl with | [_, _], _ => rfl)
  have c_moved_word : ClG P w K mg base 2 "moved_word" 6 G_moved_word := cl_of D_moved_word (He.glo_ok X G (c.fact 6 (f := .glo "moved_word") rfl)) (ok_moved_word D_moved_word c_many_of g_len) (fun _ _ _ _ _ _ us hl => match us, hl with | [_, _, _, _, _, _], _ => rfl)
  have c_gathered : ClG P w K mg base 3 "gathered" 4 G_gathered := cl_tell (cl_of D_gathered (He.glo_ok X G (c.fact 7 (f := .glo "gathered") rfl)) (ok_gathered D_gathered c_moved_word c_many_of g_len g_range) (fun _ _ _ _ _ _ us hl => match us, hl with | [_, _, _, _], _ => rfl)) tell_ok
  have c_spread : ClG P w K mg base 1 "spread" 3 G_spread := cl_of D_spread (He.glo_ok X G (c.fact 8 (f := .glo "spread") rfl)) (ok_spread D_spread g_len) (fun _ _ _ _ _ _ us hl => match us, hl with | [_, _, _], _ => rfl)
  have c_collected : ClG P w K mg base 4 "collected" 4 G_collected := cl_of D_collected (He.glo_ok X G (c.fact 9 (f := .glo "collected") rfl)) (ok_collected D_collected c_gathered c_spread g_tuple g_len) (fun _ _ _ _ _ _ us hl => match us, hl with | [_, _, _, _], _ => rfl)
  have c_law_bag : ClG P w K mg base 1 "_law_bag" 1 G_law_bag := cl_of D_law_bag (He.glo_ok X G (c.fact 10 (f := .glo "_law_bag") rfl)) (ok_law_bag D_law_bag g_abs) (fun _ _ _ _ _ _ us hl => match us, hl with | [_], _ => rfl)
  have c_law_take : ClG P w K mg base 1 "_law_take" 2 G_law_take := cl_of D_law_take (He.glo_ok X G (c.fact 11 (f := .glo "_law_take") rfl)) (ok_law_take D_law_take g_int) (fun _ _ _ _ _ _ us hl => match us, hl with | [_, _], _ => rfl)
  have c_law_some : ClG P w K mg base 2 "_law_some" 2 G_law_some := cl_of D_law_some (He.glo_ok X G (c.fact 12 (f := .glo "_law_some") rfl)) (ok_law_some D_law_some c_law_take g_len) (fun _ _ _ _ _ _ us hl => match us, hl with | [_, _], _ => rfl)
  have c_law_alike : ClG P w K mg base 1 "_law_alike" 2 G_law_alike := cl_of D_law_alike (He.glo_ok X G (c.fact 13 (f := .glo "_law_alike") rfl)) (ok_law_alike D_law_alike g_repr) (fun _ _ _ _ _ _ us hl => match us, hl with | [_, _], _ => rfl)
  have c_law_header : ClG P w K mg base 1 "_law_header" 3 G_law_header := cl_of D_law_header (He.glo_ok X G (c.fact 14 (f := .glo "_law_header") rfl)) (ok_law_header D_law_header) (fun _ _ _ _ _ _ us hl => match us, hl with | [_, _, _], _ => rfl)
  have c_law_read : ClG P w K mg base 1 "_law_read" 2 G_law_read := cl_of D_law_read (He.glo_ok X G (c.fact 15 (f := .glo "_law_read") rfl)) (ok_law_read D_law_read g_int g_tuple) (fun _ _ _ _ _ _ us hl => match us, hl with | [_, _], _ => rfl)
  have c_law_reached : ClG P w K mg base 2 "_law_reached" 2 G_law_reached := cl_tell (cl_of D_law_reached (He.glo_ok X G (c.fact 16 (f := .glo "_law_reached") rfl)) (ok_law_reached D_law_reached c_law_read g_int g_sorted) (fun _ _ _ _ _ _ us hl => match us, hl with | [_, _], _ => rfl)) tell_ok
  have c_law_placed : ClG P w K mg base 2 "_law_placed" 5 G_law_placed := cl_of D_law_placed (He.glo_ok X G (c.fact 17 (f := .glo "_law_placed") rfl)) (ok_law_placed D_law_placed c_law_read g_int g_len) (fun _ _ _ _ _ _ us hl => match us, hl with | [_, _, _, _, _], _ => rfl)
  have c_law_collected : ClG P w K mg base 3 "_law_collected" 4 G_law_collected := cl_tell (cl_of D_law_collected (He.glo_ok X G (c.fact 18 (f := .glo "_law_collected") rfl)) (ok_law_collected D_law_collected c_law_placed c_law_read g_len g_int) (fun _ _ _ _ _ _ us hl => match us, hl with | [_, _, _, _], _ => rfl)) tell_ok
  have c_law_sort_for : ClG P w K mg base 3 "_law_sort_for" 3 G_law_sort_for := cl_of D_law_sort_for (He.glo_ok X G (c.fact 19 (f := .glo "_law_sort_for") rfl)) (ok_law_sort_for D_law_sort_for c_law_some) (fun _ _ _ _ _ _ us hl => match us, hl with | [_, _, _], _ => rfl)
  have c_law_heap_drawn : ClG P w K mg base 4 "_law_heap_drawn" 1 G_law_heap_drawn := cl_tell (cl_of D_law_heap_drawn (He.glo_ok X G (c.fact 20 (f := .glo "_law_heap_drawn") rfl)) (ok_law_heap_drawn D_law_heap_drawn c_law_some c_law_take c_law_sort_for c_law_header g_range g_sum g_len g_zip g_tuple) (fun _ _ _ _ _ _ us hl => match us, hl with | [_], _ => rfl)) tell_ok
  have c_law_shape : ClG P w K mg base 2 "_law_shape" 2 G_law_shape := cl_tell (cl_of D_law_shape (He.glo_ok X G (c.fact 21 (f := .glo "_law_shape") rfl)) (ok_law_shape D_law_shape c_law_read g_list g_int g_len) (fun _ _ _ _ _ _ us hl => match us, hl with | [_, _], _ => rfl)) tell_ok
  have c_law_is_chain_right : ClG P w K mg base 5 "_law_is_chain_right" 1 G_law_is_chain_right := cl_tell (cl_of D_law_is_chain_right (He.glo_ok X G (c.fact 22 (f := .glo "_law_is_chain_right") rfl)) (ok_law_is_chain_right D_law_is_chain_right c_law_header c_law_alike c_reached_words c_reached c_collected g_range g_tuple) (fun _ _ _ _ _ _ us hl => match us, hl with | [_], _ => rfl)) tell_ok
  exact ok_law D_law c_law_bag c_law_is_chain_right c_law_some c_law_take c_law_heap_drawn c_law_reached c_law_read c_law_alike c_reached_words c_reached c_law_collected c_collected c_law_shape g_range g_repr g_len g_sum g_tuple g_list

end K69
end FW
set_option maxHeartbeats 0
open PySem PySem.W PySem.Calls PyProof.Rows
theorem PySem.Challenge.cw_swornapart_k69_collections_by_shapes_holds : PySem.Challenge.rw_swornapart_k69_collections_by_shapes.Holds := by
  w_on; o_law
  refine HandSHeadRun.head_any (r := PySem.W.OpenLaw.row PySem.Challenge.rw_swornapart_k69_collections_by_shapes) (q := PySem.W.view (PySem.W.OpenLaw.row PySem.Challenge.rw_swornapart_k69_collections_by_shapes).prog [26]) (H := FW.K69.hk) (ob := FW.K69.ob) (M := 2000) (loose := FW.K69.loose) (d := HandSHeadRun.topDef (PySem.W.OpenLaw.row PySem.Challenge.rw_swornapart_k69_collections_by_shapes).prog 26) (kwd := []) FW.K69.ob_eq
    (by kernel_rfl) (fun s => by kernel_rfl) FW.K69.run (by kernel_rfl) (by kernel_rfl) (by kernel_rfl) (by rfl) (by first | assumption | decide +kernel) (by decide +kernel) ⟨rfl, rfl, rfl, rfl, rfl, by decide +kernel⟩ ?hw ?hc
  case hw => w_witness2
  case hc =>
    refine FW.walkD (l := PySem.Challenge.rw_swornapart_k69_collections_by_shapes) (n := 63) (k := 6) (x := "script") (F := FW.K69.F_law) rfl (by decide) (by kernel_rfl) ⟨rfl, by decide, by decide⟩ (fun ns hl => FW.K69.w_law) ?F
    intro w mg fa h Y G hmg0
    obtain ⟨K, KX, c, NK⟩ := Y
    have hmg : mg ("law" : PySem.Str) = some (.ref fa) := by
      have e : (HandSHeadRun.topDef (PySem.W.OpenLaw.row PySem.Challenge.rw_swornapart_k69_collections_by_shapes).prog 26).name = ("law" : PySem.Str) := by kernel_rfl
      rw [← e]
      exact hmg0
    obtain ⟨fd, hb, hF⟩ := FW.K69.facts (P := (PySem.Challenge.rw_swornapart_k69_collections_by_shapes).prog) (w := w) KX G hmg c
    exact ⟨K, fd, KX, NK, hb, hF⟩

