import PyProof.Rows.All
import Wide.All
import OpenK.AllK
import Wide.FinOn
import HandS.ForMost
import HandS.Flow
import HandS.HeadHook1
import HandS.ExcInit
import HandS.TupAny
import HandS.TupMul
import HandS.Small
import HandS.Conv
import HandS.SortInts
import HandS.Deep
import HandS.Style
import HandS.Star
import HandS.More
import HandS.SortOrd
import HandS.WordsDict
import HandS.Zip
import HandS.RaiseMore
import PyProof.ReprRoads
import HandS.Defaults
import HandS.HeadHook2
import HandS.HeadWalk
import PyProof.DictUpdate
import KE.KDictPairs
import HandS.DictComp
import HandS.SetKeys
import HandS.Strs
import PyProof.Rows.SortKeyStr
import PyProof.Rows.SortStr
import KE.KSortTup
import KE.KSortTupAny
import HandS.Set
import HandS.SetFor
import KE.KDictZip
import KE.KStateDown
import HandS.Head0
import HandS.Head1
import HandS.Head2
import HandS.HeadEnd
import HandS.HeadHook4
import PyProof.CallFns
import PyProof.NeData
import HandS.IsInst
import HandS.ExcField
import HandS.TryMany
import HandS.ExcOwn
import HandS.ClsMeth
import KE.KExcIs
import HandS.Steps
import HandS.Text
import PyProof.StrOps2
import KE.IntTextLaws
import HandS.Zip0
import PyProof.Draws
import PyProof.EnumMake
import PyProof.TupleOfSeq
import HandS.List
import HandS.DeepEq
import HandS.FStr
import HandS.BoundDict
import PyProof.TupleOfGen
import KE.KDictSum
import PyProof.TupleOfStr
import PyProof.StrLawsChain
import PyProof.ReprBulk
import PyProof.FitsInt
import PySem.Challenge.RW_swornapart_k06_words_of_texts
set_option Elab.async false
set_option linter.all false
set_option maxRecDepth 100000
set_option maxHeartbeats 4000000
/-! FW: a layer of values over HandS. Values D are trees; a store holds the lists and dicts that change. -/
namespace FW
open PySem L2

/-- values: lst, dct: a list, a dict that nobody changes any more; ref: an object of the store; cst: a thing of the module; oth: an object of an own class of exceptions -/
inductive D where
  | non | bl (b : Bool) | int (i : Int) | str (x : Str)
  | tup (ds : List D) | lst (ds : List D) | dct (ks ds : List D)
  | ztp (ds : List D)
  | ref (n : Nat) | cst (c : V)
  | oth (x : Str)
/-- what stands in the store: a list, the script, a dict -/
inductive Ob where
  | lst (ds : List D) | flst (ds : List D) | dct (ks ds : List D) | fdct (ks ds : List D)
abbrev Store := List Ob
abbrev Env := List (Option D)
/-- an exception: its class, its fields -/
structure Exn where
  cls : Str
  flds : List (Str × D)
inductive Res (α : Type) where
  | ok (a : α) | exc (x : Exn)
/-- the end of a statement -/
inductive SR where
  | nx (e : Env) | bk (e : Env) | ct (e : Env) | rt (d : D) | exc (x : Exn) (e : Env)
abbrev M (α : Type) := Env → Store → Option (Res α × Store)
abbrev MS := Env → Store → Option (SR × Store)
/-- a function of values -/
abbrev Fn := List D → Store → Option (Res D × Store)

/-- the addresses of the store's objects; those that no value may stand at -/
structure Ad where
  r : List Addr
  x : List Addr
def Ad.out (A : Ad) (a : Addr) : Prop := a ∉ A.r ∧ a ∉ A.x

def kD : Key → D
  | .inl i => .int i
  | .inr x => .str x

/-- a tuple; told that it is a plain one: no dict of its own -/
def TQ (K : PySem.W.Frag) (H : Hp) (a : Addr) (p : Bool × List V) : Prop := SqT K H a p.2 ∧ (p.1 = true → (∃ o : Obj, o.dict = none ∧ H a = some (.frz o (.tup p.2))) ∨ ∃ o, K.lookup a = some o ∧ o.cls = .type "tuple" ∧ o.dict = none)
/-- a thing of the module; by a text: the def of that name -/
def cV (K : PySem.W.Frag) : V → V
  | .str x => .ref (He.ga K x)
  | c => c
mutual
def RD (K : PySem.W.Frag) (r : Ad) (H : Hp) : D → V → Prop
  | .non, v => v = .non
  | .bl b, v => v = .bl b
  | .int i, v => v = .int i
  | .str x, v => v = .str x
  | .tup ds, v => ∃ a vs, v = .ref a ∧ TQ K H a (true, vs) ∧ RDs K r H ds vs
  | .ztp ds, v => ∃ a vs, v = .ref a ∧ TQ K H a (false, vs) ∧ RDs K r H ds vs
  | .lst ds, v => ∃ a vs, v = .ref a ∧ H a = some (.lst vs) ∧ r.out a ∧ RDs K r H ds vs
  | .dct ks ds, v => ∃ a kvs, v = .ref a ∧ Rd H a (.dK kvs) ∧ r.out a ∧ ks = kvs.map (fun kv => kD kv.1) ∧ RDs K r H ds (kvs.map (·.2))
  | .ref n, v => ∃ a, r.r[n]? = some a ∧ v = .ref a
  | .cst c, v => v = cV K c
  | .oth x, v => ∃ a, v = .ref a ∧ H a = some (exo a (He.ga K x) none) ∧ r.out a
def RDs (K : PySem.W.Frag) (r : Ad) (H : Hp) : List D → List V → Prop
  | [], vs => vs = []
  | d :: ds, vs => ∃ v r', vs = v :: r' ∧ RD K r H d v ∧ RDs K r H ds r'
end

/-- an object of the store, as it stands in the abstract heap -/
def RO (K : PySem.W.Frag) (r : Ad) (H : Hp) : Ob → Option HO → Prop
  | .lst ds, ho => ∃ vs, ho = some (.lst vs) ∧ RDs K r H ds vs
  | .flst ds, ho => ∃ o vs, ho = some (.frz o (.lst vs)) ∧ RDs K r H ds vs
  | .dct ks ds, ho => ∃ kvs, ho = some (.dK kvs) ∧ ks = kvs.map (fun kv => kD kv.1) ∧ RDs K r H ds (kvs.map (·.2))
  | .fdct ks ds, ho => ∃ kvs, (ho = some (.dK kvs) ∨ ∃ o, ho = some (.frz o (.dK kvs))) ∧ ks = kvs.map (fun kv => kD kv.1) ∧ RDs K r H ds (kvs.map (·.2))
structure Sim (K : PySem.W.Frag) (r : Ad) (H : Hp) (st : Store) : Prop where
  len : r.r.length = st.length
  nd : r.r.Nodup
  xs : ∀ a ∈ r.x, H a ≠ none ∧ a ∉ r.r
  ob : ∀ (i : Nat) (a : Addr) (o : Ob), r.r[i]? = some a → st[i]? = some o → RO K r H o (H a)
/-- the names' values -/
structure RE (K : PySem.W.Frag) (r : Ad) (H : Hp) (e : Env) (σ : St) : Prop where
  len : e.length = σ.length
  at' : ∀ (i : Nat) (d : D), e[i]? = some (some d) → ∃ v, σ[i]? = some (some v) ∧ RD K r H d v
/-- as it was; a dict may have been locked for good (it is walked over) -/
def Kf (o : HO) (z : Option HO) : Prop := z = some o ∨ ∃ kvs od, o = .dK kvs ∧ z = some (.frz od (.dK kvs))
def Kp (r : Ad) (a : Addr) (o : HO) (z : Option HO) : Prop := z = some o ∨ (a ∉ r.x ∧ ∃ kvs od, o = .dK kvs ∧ z = some (.frz od (.dK kvs)))
theorem Kp.kf {r : Ad} {a : Addr} {o : HO} {z : Option HO} (k : Kp r a o z) : Kf o z := k.imp id fun h => h.2
theorem Kp.ne {r : Ad} {a : Addr} {o : HO} {z : Option HO} (k : Kp r a o z) : z ≠ none := by
  rcases k with h | ⟨_, kvs, od, _, h⟩ <;> (rw [h]; simp)
theorem Kf.nd {o : HO} {z : Option HO} (k : Kf o z) (n : ∀ kvs, o ≠ .dK kvs) : z = some o := k.elim id fun ⟨kvs, _, e, _⟩ => absurd e (n kvs)
theorem Kp.nd {r : Ad} {a : Addr} {o : HO} {z : Option HO} (k : Kp r a o z) (n : ∀ kvs, o ≠ .dK kvs) : z = some o := k.kf.nd n
theorem Kp.xs {r : Ad} {a : Addr} {o : HO} {z : Option HO} (k : Kp r a o z) (m : a ∈ r.x) : z = some o := k.elim id fun h => absurd m h.1
theorem Kf.rd {H' : Hp} {a : Addr} {kvs : List (Key × V)} (k : Kf (.dK kvs) (H' a)) : Rd H' a (.dK kvs) := by
  rcases k with h | ⟨_, od, e, h⟩
  · exact .inl h
  · cases e; exact .inr ⟨od, h⟩
theorem Kf.frz {ob : Obj} {u : HO} {z : Option HO} (k : Kf (.frz ob u) z) : z = some (.frz ob u) := k.nd fun _ e => by cases e
theorem Kp.trans {r r1 : Ad} {H1 H2 : Hp} {a : Addr} {o : HO} (hx : r1.x = r.x) (k : Kp r a o (H1 a)) (y : ∀ u, H1 a = some u → Kp r1 a u (H2 a)) : Kp r a o (H2 a) := by
  rcases k with h | ⟨m, kvs, od, e, h⟩
  · rcases y o h with h2 | ⟨m, h2⟩
    · exact .inl h2
    · exact .inr ⟨by rw [← hx]; exact m, h2⟩
  · exact .inr ⟨m, kvs, od, e, (y _ h).kf.frz⟩
theorem Kf.trans {H1 H2 : Hp} {a : Addr} {o : HO} (k : Kf o (H1 a)) (y : ∀ u, H1 a = some u → Kf u (H2 a)) : Kf o (H2 a) := by
  rcases k with h | ⟨kvs, od, e, h⟩
  · exact y o h
  · exact .inr ⟨kvs, od, e, (y _ h).frz⟩
/-- what is later: more objects, the others as they were -/
structure Ext (K : PySem.W.Frag) (r : Ad) (H : Hp) (r' : Ad) (H' : Hp) : Prop where
  x : r'.x = r.x
  pre : ∃ l, r'.r = r.r ++ l ∧ ∀ a ∈ l, H a = none
  keep : ∀ a o, H a = some o → a ∉ r.r → Kp r a o (H' a)
  tup : ∀ a p, TQ K H a p → TQ K H' a p

theorem ix_inj {N : List Addr} (hN : N.Nodup) {i j : Nat} {x : Addr} (a : N[i]? = some x) (b : N[j]? = some x) : i = j := by
  obtain ⟨h1, e1⟩ := List.getElem?_eq_some_iff.mp a
  obtain ⟨h2, e2⟩ := List.getElem?_eq_some_iff.mp b
  exact (List.getElem_inj hN).mp (e1.trans e2.symm)
section
variable {K : PySem.W.Frag} {r r' r1 r2 : Ad} {H H' H1 H2 : Hp} {st st' : Store} {σ : St} {e : Env}

theorem Ext.refl (K : PySem.W.Frag) (r : Ad) (H : Hp) : Ext K r H r H := ⟨rfl, ⟨[], by simp, by simp⟩, fun _ _ h _ => .inl h, fun _ _ h => h⟩
theorem Ext.out (x : Ext K r H r' H') {a : Addr} {o : HO} (h : H a = some o) (n : r.out a) : r'.out a := by
  obtain ⟨l, e, hl⟩ := x.pre
  refine ⟨fun m => ?_, by rw [x.x]; exact n.2⟩
  rw [e] at m
  rcases List.mem_append.mp m with m | m
  · exact n.1 m
  · rw [hl a m] at h; cases h
theorem Ext.at_ (x : Ext K r H r' H') {n : Nat} {a : Addr} (h : r.r[n]? = some a) : r'.r[n]? = some a := by
  obtain ⟨l, e, _⟩ := x.pre
  rw [e, List.getElem?_append_left (List.getElem?_eq_some_iff.mp h).1]; exact h
theorem Ext.trans (x : Ext K r H r1 H1) (y : Ext K r1 H1 r2 H2) (nn : ∀ a, H a ≠ none → H1 a ≠ none) : Ext K r H r2 H2 := by
  obtain ⟨l, e, hl⟩ := x.pre
  obtain ⟨l2, e2, hl2⟩ := y.pre
  refine ⟨y.x.trans x.x, ⟨l ++ l2, by rw [e2, e, List.append_assoc], fun a m => ?_⟩, fun a o h n => (x.keep a o h n).trans x.x fun u hu => y.keep a u hu ?_, fun a xs h => y.tup a xs (x.tup a xs h)⟩
  · rcases List.mem_append.mp m with m | m
    · exact hl a m
    · by_cases q : H a = none
      · exact q
      · exact absurd (hl2 a m) (nn a q)
  · rw [e]
    intro m
    rcases List.mem_append.mp m with m | m
    · exact n m
    · rw [hl a m] at h; cases h

mutual
theorem RD.mono (x : Ext K r H r' H') : ∀ {d : D} {v : V}, RD K r H d v → RD K r' H' d v
  | .non, _, h => by simpa only [RD] using h
  | .bl _, _, h => by simpa only [RD] using h
  | .int _, _, h => by simpa only [RD] using h
  | .str _, _, h => by simpa only [RD] using h
  | .cst _, _, h => by simpa only [RD] using h
  | .tup ds, v, h => by
    simp only [RD] at h ⊢
    obtain ⟨a, vs, e, s, q⟩ := h
    exact ⟨a, vs, e, x.tup a _ s, RDs.mono x q⟩
  | .ztp ds, v, h => by
    simp only [RD] at h ⊢
    obtain ⟨a, vs, e, s, q⟩ := h
    exact ⟨a, vs, e, x.tup a _ s, RDs.mono x q⟩
  | .lst ds, v, h => by
    simp only [RD] at h ⊢
    obtain ⟨a, vs, e, s, n, q⟩ := h
    exact ⟨a, vs, e, (x.keep a _ s n.1).nd (fun _ z => by cases z), x.out s n, RDs.mono x q⟩
  | .dct ks ds, v, h => by
    simp only [RD] at h ⊢
    obtain ⟨a, kvs, e, s, n, k, q⟩ := h
    rcases s with s | ⟨od, s⟩
    · exact ⟨a, kvs, e, (x.keep a _ s n.1).kf.rd, x.out s n, k, RDs.mono x q⟩
    · exact ⟨a, kvs, e, .inr ⟨od, (x.keep a _ s n.1).kf.frz⟩, x.out s n, k, RDs.mono x q⟩
  | .ref n, v, h => by
    simp only [RD] at h ⊢
    obtain ⟨a, s, e⟩ := h
    exact ⟨a, x.at_ s, e⟩
  | .oth y, v, h => by
    simp only [RD] at h ⊢
    obtain ⟨a, e, s, n⟩ := h
    exact ⟨a, e, (x.keep a _ s n.1).nd (fun _ z => by cases z), x.out s n⟩
theorem RDs.mono (x : Ext K r H r' H') : ∀ {ds : List D} {vs : List V}, RDs K r H ds vs → RDs K r' H' ds vs
  | [], _, h => by simpa only [RDs] using h
  | d :: ds, vs, h => by
    simp only [RDs] at h ⊢
    obtain ⟨v, r', e, a, b⟩ := h
    exact ⟨v, r', e, RD.mono x a, RDs.mono x b⟩
end
/-- the same facts for other addresses, another heap -/
structure Tr (K : PySem.W.Frag) (r : Ad) (H : Hp) (r' : Ad) (H' : Hp) : Prop where
  obj : ∀ a o, H a = some o → (∀ xs, o ≠ .tup xs) → r.out a → Kf o (H' a) ∧ r'.out a
  at_ : ∀ (n : Nat) (a : Addr), r.r[n]? = some a → r'.r[n]? = some a
  tup : ∀ a p, TQ K H a p → TQ K H' a p
mutual
theorem RD.tr (x : Tr K r H r' H') : ∀ {d : D} {v : V}, RD K r H d v → RD K r' H' d v
  | .non, _, h => by simpa only [RD] using h
  | .bl _, _, h => by simpa only [RD] using h
  | .int _, _, h => by simpa only [RD] using h
  | .str _, _, h => by simpa only [RD] using h
  | .cst _, _, h => by simpa only [RD] using h
  | .tup ds, v, h => by
    simp only [RD] at h ⊢
    obtain ⟨a, vs, e, s, q⟩ := h
    exact ⟨a, vs, e, x.tup a _ s, RDs.tr x q⟩
  | .ztp ds, v, h => by
    simp only [RD] at h ⊢
    obtain ⟨a, vs, e, s, q⟩ := h
    exact ⟨a, vs, e, x.tup a _ s, RDs.tr x q⟩
  | .lst ds, v, h => by
    simp only [RD] at h ⊢
    obtain ⟨a, vs, e, s, n, q⟩ := h
    obtain ⟨h1, h2⟩ := x.obj a _ s (fun _ z => by cases z) n
    exact ⟨a, vs, e, h1.nd (fun _ z => by cases z), h2, RDs.tr x q⟩
  | .dct ks ds, v, h => by
    simp only [RD] at h ⊢
    obtain ⟨a, kvs, e, s, n, k, q⟩ := h
    rcases s with s | ⟨od, s⟩
    · obtain ⟨h1, h2⟩ := x.obj a _ s (fun _ z => by cases z) n
      exact ⟨a, kvs, e, h1.rd, h2, k, RDs.tr x q⟩
    · obtain ⟨h1, h2⟩ := x.obj a _ s (fun _ z => by cases z) n
      exact ⟨a, kvs, e, .inr ⟨od, h1.frz⟩, h2, k, RDs.tr x q⟩
  | .ref n, v, h => by
    simp only [RD] at h ⊢
    obtain ⟨a, s, e⟩ := h
    exact ⟨a, x.at_ n a s, e⟩
  | .oth y, v, h => by
    simp only [RD] at h ⊢
    obtain ⟨a, e, s, n⟩ := h
    obtain ⟨h1, h2⟩ := x.obj a _ s (fun _ z => by cases z) n
    exact ⟨a, e, h1.nd (fun _ z => by cases z), h2⟩
theorem RDs.tr (x : Tr K r H r' H') : ∀ {ds : List D} {vs : List V}, RDs K r H ds vs → RDs K r' H' ds vs
  | [], _, h => by simpa only [RDs] using h
  | d :: ds, vs, h => by
    simp only [RDs] at h ⊢
    obtain ⟨v, r', e, a, b⟩ := h
    exact ⟨v, r', e, RD.tr x a, RDs.tr x b⟩
end
theorem Ext.tr (x : Ext K r H r' H') : Tr K r H r' H' := ⟨fun a o h _ n => ⟨(x.keep a o h n.1).kf, x.out h n⟩, fun _ _ => x.at_, x.tup⟩
theorem RE.tr (x : Tr K r H r' H') (h : RE K r H e σ) : RE K r' H' e σ := ⟨h.len, fun i d q => let ⟨v, a, b⟩ := h.at' i d q; ⟨v, a, b.tr x⟩⟩
theorem RE.mono (x : Ext K r H r' H') (h : RE K r H e σ) : RE K r' H' e σ := h.tr x.tr
theorem RDs.length : ∀ {ds : List D} {vs : List V}, RDs K r H ds vs → ds.length = vs.length
  | [], _, h => by simp only [RDs] at h; subst h; rfl
  | d :: ds, vs, h => by
    simp only [RDs] at h
    obtain ⟨v, r', rfl, _, b⟩ := h
    simp [RDs.length b]
theorem RDs.get : ∀ {ds : List D} {vs : List V} {i : Nat} {d : D}, RDs K r H ds vs → ds[i]? = some d → ∃ v, vs[i]? = some v ∧ RD K r H d v
  | [], _, _, _, _, e => by simp at e
  | d :: ds, vs, 0, _, h, e => by
    simp only [RDs] at h
    obtain ⟨v, r', rfl, a, b⟩ := h
    simp at e; subst e
    exact ⟨v, rfl, a⟩
  | d :: ds, vs, i + 1, _, h, e => by
    simp only [RDs] at h
    obtain ⟨v, r', rfl, a, b⟩ := h
    obtain ⟨w, h1, h2⟩ := RDs.get (i := i) b (by simpa using e)
    exact ⟨w, by simpa using h1, h2⟩
theorem RDs.got : ∀ {ds : List D} {vs : List V} {i : Nat} {v : V}, RDs K r H ds vs → vs[i]? = some v → ∃ d, ds[i]? = some d ∧ RD K r H d v
  | [], _, _, _, h, e => by simp only [RDs] at h; subst h; simp at e
  | d :: ds, vs, 0, _, h, e => by
    simp only [RDs] at h
    obtain ⟨v, r', rfl, a, b⟩ := h
    simp at e; subst e
    exact ⟨d, rfl, a⟩
  | d :: ds, vs, i + 1, _, h, e => by
    simp only [RDs] at h
    obtain ⟨v, r', rfl, a, b⟩ := h
    obtain ⟨w, h1, h2⟩ := RDs.got (i := i) b (by simpa using e)
    exact ⟨w, by simpa using h1, h2⟩
theorem RDs.nil : RDs K r H [] [] := by simp only [RDs]
theorem RDs.cons {d : D} {v : V} {ds : List D} {vs : List V} (h : RD K r H d v) (t : RDs K r H ds vs) : RDs K r H (d :: ds) (v :: vs) := by
  simp only [RDs]; exact ⟨v, vs, rfl, h, t⟩
theorem RDs.append : ∀ {ds es : List D} {vs ws : List V}, RDs K r H ds vs → RDs K r H es ws → RDs K r H (ds ++ es) (vs ++ ws)
  | [], _, _, _, h, t => by simp only [RDs] at h; subst h; simpa using t
  | d :: ds, _, vs, _, h, t => by
    simp only [RDs] at h
    obtain ⟨v, r', rfl, a, b⟩ := h
    exact RDs.cons a (RDs.append b t)
theorem RDs.take : ∀ {ds : List D} {vs : List V} (n : Nat), RDs K r H ds vs → RDs K r H (ds.take n) (vs.take n)
  | _, _, 0, _ => by simp [RDs]
  | [], _, _ + 1, h => by simp only [RDs] at h; subst h; simp [RDs]
  | d :: ds, _, n + 1, h => by
    simp only [RDs] at h
    obtain ⟨v, r', rfl, a, b⟩ := h
    exact RDs.cons a (RDs.take n b)
theorem RDs.drop : ∀ {ds : List D} {vs : List V} (n : Nat), RDs K r H ds vs → RDs K r H (ds.drop n) (vs.drop n)
  | _, _, 0, h => h
  | [], _, _ + 1, h => by simp only [RDs] at h; subst h; simp [RDs]
  | d :: ds, _, n + 1, h => by
    simp only [RDs] at h
    obtain ⟨v, r', rfl, a, b⟩ := h
    exact RDs.drop n b
theorem RDs.set {d : D} {v : V} (h : RD K r H d v) : ∀ {ds : List D} {vs : List V} (n : Nat), RDs K r H ds vs → RDs K r H (ds.set n d) (vs.set n v)
  | [], _, _, q => by simp only [RDs] at q; subst q; simp [RDs]
  | e :: ds, _, 0, q => by
    simp only [RDs] at q
    obtain ⟨w, r', rfl, a, b⟩ := q
    exact RDs.cons h b
  | e :: ds, _, n + 1, q => by
    simp only [RDs] at q
    obtain ⟨w, r', rfl, a, b⟩ := q
    exact RDs.cons a (RDs.set h n b)
theorem RDs.reverse : ∀ {ds : List D} {vs : List V}, RDs K r H ds vs → RDs K r H ds.reverse vs.reverse
  | [], _, h => by simp only [RDs] at h; subst h; simp [RDs]
  | d :: ds, _, h => by
    simp only [RDs] at h
    obtain ⟨v, r', rfl, a, b⟩ := h
    rw [List.reverse_cons, List.reverse_cons]
    exact RDs.append (RDs.reverse b) (RDs.cons a RDs.nil)

theorem RE.set (h : RE K r H e σ) {i : Nat} {d : D} {v : V} (q : RD K r H d v) : RE K r H (e.set i (some d)) (σ.set i (some v)) := by
  refine ⟨by simp [h.len], fun j d' e' => ?_⟩
  by_cases hj : i = j
  · subst hj
    by_cases hi : i < e.length
    · rw [List.getElem?_set_self hi] at e'
      cases e'
      exact ⟨v, List.getElem?_set_self (by rw [← h.len]; exact hi), q⟩
    · rw [List.getElem?_eq_none (by simpa using hi)] at e'
      cases e'
  · rw [List.getElem?_set_ne hj] at e'
    obtain ⟨w, a, b⟩ := h.at' j d' e'
    exact ⟨w, by rw [List.getElem?_set_ne hj]; exact a, b⟩
theorem RE.start {N : List Str} {ds : List D} {vs : List V} (h : RDs K r H ds vs) : RE K r H (ds.map some ++ List.replicate (N.length - ds.length) none) (L2.start N vs) := by
  refine ⟨by unfold L2.start; simp [h.length], fun i d e' => ?_⟩
  unfold L2.start
  by_cases hi : i < ds.length
  · rw [List.getElem?_append_left (by simpa using hi), List.getElem?_map] at e'
    cases q : ds[i]? with
    | none => rw [q] at e'; cases e'
    | some d' =>
      rw [q] at e'
      cases e'
      obtain ⟨v, h1, h2⟩ := h.get q
      refine ⟨v, ?_, h2⟩
      rw [List.getElem?_append_left (by simpa [← h.length] using hi), List.getElem?_map, h1]
      rfl
  · rw [List.getElem?_append_right (by simpa using hi), List.getElem?_replicate] at e'
    split at e' <;> cases e'

theorem RO.tr {o : Ob} {ho : Option HO} (x : Tr K r H r' H') (q : RO K r H o ho) : RO K r' H' o ho := by
  cases o with
  | lst ds => obtain ⟨vs, e, t⟩ := q; exact ⟨vs, e, t.tr x⟩
  | flst ds => obtain ⟨o, vs, e, t⟩ := q; exact ⟨o, vs, e, t.tr x⟩
  | dct ks ds => obtain ⟨kvs, e, k, t⟩ := q; exact ⟨kvs, e, k, t.tr x⟩
  | fdct ks ds => obtain ⟨kvs, e, k, t⟩ := q; exact ⟨kvs, e, k, t.tr x⟩
theorem RO.mono {o : Ob} {ho : Option HO} (x : Ext K r H r' H') (q : RO K r H o ho) : RO K r' H' o ho := q.tr x.tr
theorem Sim.ex (S : Sim K r H st) {i : Nat} {a : Addr} (h : r.r[i]? = some a) : ∃ o, st[i]? = some o ∧ RO K r H o (H a) := by
  have hi : i < st.length := by rw [← S.len]; exact (List.getElem?_eq_some_iff.mp h).1
  exact ⟨st[i], by simp [hi], S.ob i a _ h (by simp [hi])⟩
/-- an object of the store: where it stands -/
theorem Sim.at_ (S : Sim K r H st) {n : Nat} {v : V} {o : Ob} (h : RD K r H (.ref n) v) (e : st[n]? = some o) : ∃ a, v = .ref a ∧ r.r[n]? = some a ∧ RO K r H o (H a) := by
  simp only [RD] at h
  obtain ⟨a, h1, h2⟩ := h
  exact ⟨a, h2, h1, S.ob n a o h1 e⟩
theorem RO.isSome {o : Ob} {a : Addr} (h : RO K r H o (H a)) : H a ≠ none := by
  cases o with
  | lst ds => obtain ⟨vs, e, _⟩ := h; rw [e]; simp
  | flst ds => obtain ⟨o, vs, e, _⟩ := h; rw [e]; simp
  | dct ks ds => obtain ⟨kvs, e, _⟩ := h; rw [e]; simp
  | fdct ks ds => obtain ⟨kvs, e | ⟨o, e⟩, _⟩ := h <;> (rw [e]; simp)
theorem Sim.there (S : Sim K r H st) {a : Addr} (h : a ∈ r.r) : H a ≠ none := by
  obtain ⟨i, e⟩ := List.getElem?_of_mem h
  obtain ⟨o, _, q⟩ := S.ex e
  exact q.isSome
theorem Sim.notin (S : Sim K r H st) {a : Addr} (h : H a = none) : r.out a := ⟨fun m => S.there m h, fun m => (S.xs a m).1 h⟩
theorem Sim.notup (S : Sim K r H st) {a : Addr} {xs : List V} (h : Rd H a (.tup xs)) : a ∉ r.r := fun m => by
  obtain ⟨i, e⟩ := List.getElem?_of_mem m
  obtain ⟨o, _, q⟩ := S.ex e
  cases o with
  | lst ds =>
    obtain ⟨vs, e, _⟩ := q
    rcases h with h | ⟨o, h⟩ <;> (rw [e] at h; cases h)
  | flst ds =>
    obtain ⟨o, vs, e, _⟩ := q
    rcases h with h | ⟨o, h⟩ <;> (rw [e] at h; cases h)
  | dct ks ds =>
    obtain ⟨kvs, e, _⟩ := q
    rcases h with h | ⟨o, h⟩ <;> (rw [e] at h; cases h)
  | fdct ks ds =>
    obtain ⟨kvs, e | ⟨o, e⟩, _⟩ := q <;> (rcases h with h | ⟨o, h⟩ <;> (rw [e] at h; cases h))
theorem Sim.tups (S : Sim K r H st) (keep : ∀ a o, H a = some o → a ∉ r.r → Kf o (H' a)) (a : Addr) (p : Bool × List V) (h : TQ K H a p) : TQ K H' a p := by
  obtain ⟨h, h2⟩ := h
  refine ⟨?_, fun e => ?_⟩
  · rcases h with h | h
    · have n := S.notup h
      rcases h with h | ⟨o, h⟩
      · exact .inl (.inl ((keep a _ h n).nd fun _ z => by cases z))
      · exact .inl (.inr ⟨o, (keep a _ h n).frz⟩)
    · exact .inr h
  · rcases h2 e with ⟨o, d, h⟩ | h
    · exact .inl ⟨o, d, (keep a _ h (S.notup (.inr ⟨o, h⟩))).frz⟩
    · exact .inr h
/-- the objects alone are later -/
theorem Sim.ext (S : Sim K r H st) (hx : r'.x = r.x) (pre : ∃ l, r'.r = r.r ++ l ∧ ∀ a ∈ l, H a = none) (keep : ∀ a o, H a = some o → a ∉ r.r → H' a = some o) : Ext K r H r' H' := ⟨hx, pre, fun a o h n => .inl (keep a o h n), S.tups fun a o h n => .inl (keep a o h n)⟩
/-- one state behind the other -/
theorem Ext.trans' (S : Sim K r H st) (S1 : Sim K r1 H1 st') (x : Ext K r H r1 H1) (y : Ext K r1 H1 r2 H2) : Ext K r H r2 H2 := by
  refine x.trans y fun a h => ?_
  by_cases m : a ∈ r.r
  · obtain ⟨l, e, _⟩ := x.pre
    exact S1.there (by rw [e]; exact List.mem_append_left _ m)
  · cases q : H a with
    | none => exact absurd q h
    | some o => exact (x.keep a o q m).ne

/-- a new thing that is no object of the store: a tuple, a list of its own -/
theorem Sim.side (S : Sim K r H st) {p : Addr} {o : HO} (h : H p = none) : Sim K r (upd H p o) st ∧ Ext K r H r (upd H p o) := by
  have x : Ext K r H r (upd H p o) := S.ext rfl ⟨[], by simp, by simp⟩ fun a u e _ => by
    rw [upd_ne (ne_of_none e h)]; exact e
  refine ⟨⟨S.len, S.nd, fun a m => ?_, fun i a ob e1 e2 => ?_⟩, x⟩
  · have na : a ≠ p := fun z => (S.xs a m).1 (z ▸ h)
    rw [upd_ne na]
    exact S.xs a m
  · have q := S.ob i a ob e1 e2
    have na : a ≠ p := fun z => S.there (List.mem_of_getElem? e1) (z ▸ h)
    rw [upd_ne na]
    exact q.mono x
/-- a new object of the store -/
theorem Sim.new (S : Sim K r H st) {p : Addr} {o : HO} {ob : Ob} (h : H p = none) (q : RO K r H ob (some o)) : Sim K ⟨r.r ++ [p], r.x⟩ (upd H p o) (st ++ [ob]) ∧ Ext K r H ⟨r.r ++ [p], r.x⟩ (upd H p o) := by
  have x : Ext K r H ⟨r.r ++ [p], r.x⟩ (upd H p o) := S.ext rfl ⟨[p], rfl, by simp [h]⟩ fun a u e _ => by
    rw [upd_ne (ne_of_none e h)]; exact e
  refine ⟨⟨by simp [S.len], ?_, fun a m => ?_, fun i a ob' e1 e2 => ?_⟩, x⟩
  · show (r.r ++ [p]).Nodup
    rw [List.nodup_append]
    refine ⟨S.nd, by simp, fun a ha b hb => ?_⟩
    simp at hb
    subst hb
    intro z; subst z
    exact S.there ha h
  · have na : a ≠ p := fun z => (S.xs a m).1 (z ▸ h)
    rw [upd_ne na]
    refine ⟨(S.xs a m).1, fun z => ?_⟩
    rcases List.mem_append.mp z with z | z
    · exact (S.xs a m).2 z
    · simp at z; exact na z
  · replace e1 : (r.r ++ [p])[i]? = some a := e1
    by_cases hi : i < r.r.length
    · rw [List.getElem?_append_left hi] at e1
      rw [List.getElem?_append_left (by rw [← S.len]; exact hi)] at e2
      have na : a ≠ p := fun z => S.there (List.mem_of_getElem? e1) (z ▸ h)
      rw [upd_ne na]
      exact (S.ob i a ob' e1 e2).mono x
    · have hi' : i = r.r.length := by
        have := (List.getElem?_eq_some_iff.mp e1).1
        simp at this; omega
      subst hi'
      simp at e1
      subst e1
      rw [S.len] at e2
      simp at e2
      subst e2
      rw [upd_same]
      exact q.mono x
/-- an object of the store is changed -/
theorem Sim.put (S : Sim K r H st) {n : Nat} {p : Addr} {o : HO} {ob : Ob} (hn : r.r[n]? = some p) (q : RO K r H ob (some o)) : Sim K r (upd H p o) (st.set n ob) ∧ Ext K r H r (upd H p o) := by
  have mp : p ∈ r.r := List.mem_of_getElem? hn
  have x : Ext K r H r (upd H p o) := S.ext rfl ⟨[], by simp, by simp⟩ fun a u e m => by
    rw [upd_ne (fun z => m (by rw [z]; exact mp))]; exact e
  refine ⟨⟨by simp [S.len], S.nd, fun a m => ?_, fun i a ob' e1 e2 => ?_⟩, x⟩
  · have na : a ≠ p := fun z => (S.xs a m).2 (by rw [z]; exact mp)
    rw [upd_ne na]
    exact S.xs a m
  · by_cases hi : n = i
    · subst hi
      have ea : p = a := by rw [hn] at e1; exact Option.some.inj e1
      subst ea
      have hl : n < st.length := by rw [← S.len]; exact (List.getElem?_eq_some_iff.mp hn).1
      rw [List.getElem?_set_self hl] at e2
      cases e2
      rw [upd_same]
      exact q.mono x
    · rw [List.getElem?_set_ne hi] at e2
      have na : a ≠ p := fun z => by
        subst z
        exact hi (ix_inj S.nd hn e1)
      rw [upd_ne na]
      exact (S.ob i a ob' e1 e2).mono x

/-! ### a list (a dict) that is being made: it stands at p, nobody sees it -/
/-- it begins -/
theorem Sim.hide (S : Sim K r H st) {p : Addr} {o : HO} (h : H p = none) : Sim K ⟨r.r, p :: r.x⟩ (upd H p o) st ∧ Tr K r H ⟨r.r, p :: r.x⟩ (upd H p o) := by
  have keep : ∀ a u, H a = some u → upd H p o a = some u := fun a u e => by rw [upd_ne (ne_of_none e h)]; exact e
  have x : Tr K r H ⟨r.r, p :: r.x⟩ (upd H p o) := ⟨fun a u e _ n => ⟨.inl (keep a u e), n.1, fun m => by
    rcases List.mem_cons.mp m with m | m
    · subst m; rw [h] at e; cases e
    · exact n.2 m⟩, fun _ _ z => z, S.tups fun a u e _ => .inl (keep a u e)⟩
  refine ⟨⟨S.len, S.nd, fun a m => ?_, fun i a ob e1 e2 => ?_⟩, x⟩
  · rcases List.mem_cons.mp m with m | m
    · subst m
      exact ⟨by rw [upd_same]; simp, (S.notin h).1⟩
    · have na : a ≠ p := fun z => (S.xs a m).1 (z ▸ h)
      rw [upd_ne na]
      exact S.xs a m
  · have q := S.ob i a ob e1 e2
    have na : a ≠ p := fun z => S.there (List.mem_of_getElem? e1) (z ▸ h)
    rw [upd_ne na]
    exact q.tr x
/-- it grows -/
theorem Sim.grow (S : Sim K r H st) {p : Addr} {o : HO} {u : HO} (m : p ∈ r.x) (hu : H p = some u) (nt : ∀ xs, ¬ Rd H p (.tup xs)) : Sim K r (upd H p o) st ∧ Tr K r H r (upd H p o) := by
  have ne : ∀ a, r.out a → a ≠ p := fun a n z => n.2 (by rw [z]; exact m)
  have x : Tr K r H r (upd H p o) := ⟨fun a w e _ n => ⟨.inl (by rw [upd_ne (ne a n)]; exact e), n⟩, fun _ _ z => z, fun a xs h => by
    obtain ⟨h, h2⟩ := h
    refine ⟨?_, fun e => ?_⟩
    · rcases h with h | h
      · have na : a ≠ p := fun z => nt xs.2 (z ▸ h)
        refine .inl ?_
        rcases h with h | ⟨w, h⟩
        · exact .inl (by rw [upd_ne na]; exact h)
        · exact .inr ⟨w, by rw [upd_ne na]; exact h⟩
      · exact .inr h
    · rcases h2 e with ⟨o, d, h⟩ | h
      · have na : a ≠ p := fun z => nt xs.2 (.inr ⟨o, z ▸ h⟩)
        exact .inl ⟨o, d, by rw [upd_ne na]; exact h⟩
      · exact .inr h⟩
  refine ⟨⟨S.len, S.nd, fun a ma => ?_, fun i a ob e1 e2 => ?_⟩, x⟩
  · by_cases na : a = p
    · subst na
      exact ⟨by rw [upd_same]; simp, (S.xs a ma).2⟩
    · rw [upd_ne na]
      exact S.xs a ma
  · have na : a ≠ p := fun z => (S.xs p m).2 (by rw [← z]; exact List.mem_of_getElem? e1)
    rw [upd_ne na]
    exact (S.ob i a ob e1 e2).tr x
/-- it is done: a value -/
theorem Sim.bare {l x : List Addr} {p : Addr} (S : Sim K ⟨l, p :: x⟩ H st) : Sim K ⟨l, x⟩ H st ∧ Tr K ⟨l, p :: x⟩ H ⟨l, x⟩ H := by
  have t : Tr K ⟨l, p :: x⟩ H ⟨l, x⟩ H := ⟨fun a u e _ n => ⟨.inl e, n.1, fun m => n.2 (List.mem_cons_of_mem _ m)⟩, fun _ _ z => z, fun _ _ z => z⟩
  exact ⟨⟨S.len, S.nd, fun a m => S.xs a (List.mem_cons_of_mem _ m), fun i a o e1 e2 => (S.ob i a o e1 e2).tr t⟩, t⟩
/-- it is done: an object of the store -/
theorem Sim.join {l x : List Addr} {p : Addr} {ob : Ob} (S : Sim K ⟨l, p :: x⟩ H st) (nx : p ∉ x) (q : RO K ⟨l, p :: x⟩ H ob (H p)) : Sim K ⟨l ++ [p], x⟩ H (st ++ [ob]) ∧ Tr K ⟨l, p :: x⟩ H ⟨l ++ [p], x⟩ H := by
  have t : Tr K ⟨l, p :: x⟩ H ⟨l ++ [p], x⟩ H := ⟨fun a u e _ n => ⟨.inl e, fun m => by
    rcases List.mem_append.mp m with m | m
    · exact n.1 m
    · simp at m; exact n.2 (by rw [m]; exact List.mem_cons_self), fun m => n.2 (List.mem_cons_of_mem _ m)⟩, fun n a z => by
      show (l ++ [p])[n]? = some a
      rw [List.getElem?_append_left (List.getElem?_eq_some_iff.mp z).1]; exact z, fun _ _ z => z⟩
  have np : p ∉ l := (S.xs p List.mem_cons_self).2
  have ll : l.length = st.length := S.len
  refine ⟨⟨by simp [ll], ?_, fun a m => ?_, fun i a o e1 e2 => ?_⟩, t⟩
  · show (l ++ [p]).Nodup
    rw [List.nodup_append]
    refine ⟨S.nd, by simp, fun a ha b hb => ?_⟩
    simp at hb
    subst hb
    intro z; subst z
    exact np ha
  · refine ⟨(S.xs a (List.mem_cons_of_mem _ m)).1, fun z => ?_⟩
    rcases List.mem_append.mp z with z | z
    · exact (S.xs a (List.mem_cons_of_mem _ m)).2 z
    · simp at z; subst z; exact nx m
  · replace e1 : (l ++ [p])[i]? = some a := e1
    by_cases hi : i < l.length
    · rw [List.getElem?_append_left hi] at e1
      rw [List.getElem?_append_left (by rw [← ll]; exact hi)] at e2
      exact (S.ob i a o e1 e2).tr t
    · have hi' : i = l.length := by
        have := (List.getElem?_eq_some_iff.mp e1).1
        simp at this; omega
      subst hi'
      simp at e1
      subst e1
      rw [ll] at e2
      simp at e2
      subst e2
      exact q.tr t
/-- fewer objects -/
theorem Sim.take (S : Sim K r H st) (n : Nat) (hn : ∀ (i : Nat) (o : Ob), i < n → st[i]? = some o → ∀ ho, RO K r H o ho → RO K ⟨r.r.take n, r.x⟩ H o ho) : Sim K ⟨r.r.take n, r.x⟩ H (st.take n) := by
  refine ⟨by simp [S.len], S.nd.sublist (List.take_sublist _ _), fun a m => ⟨(S.xs a m).1, fun z => (S.xs a m).2 (List.mem_of_mem_take z)⟩, fun i a o e1 e2 => ?_⟩
  have hi : i < n := by
    have := (List.getElem?_eq_some_iff.mp e1).1
    simp at this; omega
  replace e1 : (r.r.take n)[i]? = some a := e1
  rw [List.getElem?_take_of_lt hi] at e1 e2
  exact hn i o hi e2 _ (S.ob i a o e1 e2)
end
end FW

set_option maxHeartbeats 4000000
/-! Tuples that are made: told as what they are, objects without a dict of their own -/
namespace FW
open PySem PySem.Spec PyProof.Rows L2

/-- a new tuple of xs is wanted at any new place -/
def NewT (H : Hp) (Q : VK) (xs : List V) : Prop := ∀ (p : Addr) (o : Obj), o.dict = none → H p = none → Q (.ref p) (upd H p (.frz o (.tup xs)))
section
variable {X : Cx}
theorem laidT {pins : List (Addr × Obj)} {σ : L2.St} {H : Hp} {s : Shared} {xs : List V} {its : List Value} {arr : Array Value} {Q : VK} (I : Inv X pins σ H s) (r : Vals xs its) (ha : arr = its.toArray) (hz : xs.length ≤ sizeLine) (q : NewT H Q xs) (n : Nat) (t : Nat) :
    EP X pins σ Q (.ref s.heap.objs.size) { s with heap := s.heap.push { cls := .type "tuple", data := .seq arr n }, toks := t } := by
  subst ha
  have J : Inv X pins σ (upd H s.heap.objs.size (.frz { cls := .type "tuple", data := .seq its.toArray n } (.tup xs))) { s with heap := s.heap.push { cls := .type "tuple", data := .seq its.toArray n }, toks := t } := by
    refine I.laid (t' := t) (fun b u e => Heap.get?_push_of_some _ e) (Nat.le_refl _) ?_
    exact ⟨Heap.get?_push_size _ rfl, hz, its, r, ⟨_, Heap.get?_push_size _ rfl, rfl, n, rfl⟩⟩
  exact ⟨.ref s.heap.objs.size, _, J, rfl, q _ _ rfl (I.hok.fresh (Nat.le_refl _))⟩
/-- (a, b, ..) -/
def tTupP (t : TA) : TE := fun σ H Q => t σ H fun xs H1 => xs.length ≤ sizeLine ∧ NewT H1 Q xs
theorem pe_tupP {es : List Expr} {x1} {pos : Pos} {t : TA} (h : PA X es t) : PE X (.Tuple es x1 pos) (tTupP t) := by
  constructor
  intro pins s σ H Q I hq
  refine wpAny_Tuple_spliced (thn (h.run pos pins s σ H _ I hq) ?_)
  rintro us s1 ⟨xs, H1, I1, r, z, q⟩
  exact ⟨by rw [← r.length]; exact z, laidT I1 r rfl z q _ s1.toks⟩
/-- t + u -/
def rCatP (K : PySem.W.Frag) : R2 := fun x y H Q => ∃ a b xs ys, x = .ref a ∧ y = .ref b ∧ SqT K H a xs ∧ SqT K H b ys ∧ xs.length + ys.length ≤ sizeLine ∧ (xs = [] → Q (.ref b) H) ∧ (xs ≠ [] → ys = [] → Q (.ref a) H) ∧ (xs ≠ [] → ys ≠ [] → NewT H Q (xs ++ ys))
theorem op_catP : OpR X (binaryOp .Add) (rCatP X.K) := by
  intro pins s σ H x y v u Q I rx ry h
  rcases h with ⟨a, b, xs, ys, rfl, rfl, ha, hb, hz, q0, q1, q2⟩
  cases rx
  cases ry
  rcases I.tuple ha with ⟨its, r1, p1, _⟩
  rcases I.tuple hb with ⟨its2, r2, p2, _⟩
  by_cases hx : xs = []
  · subst hx
    cases r1
    exact cat_tup0 p1 p2 ⟨.ref b, H, I, rfl, q0 rfl⟩
  · have e1 : its ≠ [] := fun z => hx (r1.nil_iff.mp z)
    refine HT.cat_tup p1 p2 e1 (fun z => ⟨.ref a, H, I, rfl, q1 hx (r2.nil_iff.mp z)⟩) (fun z => ?_) (by rw [← r1.length, ← r2.length]; exact hz)
    exact laidT I (r1.append r2) (by simp) (by rw [List.length_append]; exact hz) (q2 hx fun w => z (r2.nil_iff.mpr w)) _ s.toks
/-- t[lo:hi] -/
def rSlP (K : PySem.W.Frag) : V → Option Int → Option Int → Hp → VK → Prop := fun x lo hi H Q => ∃ a xs, x = .ref a ∧ SqT K H a xs ∧
  (HT.sIx xs.length 0 lo = 0 ∧ HT.sIx xs.length xs.length hi = xs.length → Q (.ref a) H) ∧ (¬ (HT.sIx xs.length 0 lo = 0 ∧ HT.sIx xs.length xs.length hi = xs.length) → NewT H Q (cutV xs lo hi))
theorem sl_tupP : SlR X (rSlP X.K) := by
  intro pins s σ H x v vl vu lo hi sl Q I rx hs pl pu h
  rcases h with ⟨a, xs, rfl, hx, q1, q2⟩
  cases rx
  rcases I.tuple hx with ⟨its, r, ht, hz⟩
  have hlen : its.toArray.size = xs.length := by rw [List.size_toArray, ← r.length]
  refine ⟨"tuple", _, PyProof.Rows.slot_tuple_getitem.lookup, ht.typeIs, ?_⟩
  by_cases hw : HT.sIx xs.length 0 lo = 0 ∧ HT.sIx xs.length xs.length hi = xs.length
  · exact getItem_tuple_whole ht hs pl pu (by rw [hlen]; exact hw) ⟨.ref a, H, I, rfl, q1 hw⟩
  · refine HT.getItem_tuple_cut ht hs pl pu (by rw [hlen]; exact hw) ?_ (by rw [hlen]; exact hz)
    rw [hlen]
    exact laidT I ((r.drop (HT.sIx xs.length 0 lo)).take _) rfl (Nat.le_trans (cutV_length xs lo hi) hz) (q2 hw) _ s.toks
/-- tuple(xs) -/
def rTupleP (K : PySem.W.Frag) : List V → Hp → VK → Prop := fun xs H Q => ∃ p ys, xs = [.ref p] ∧ ((SqL K H p ys ∧ NewT H Q ys) ∨ (SqT K H p ys ∧ Q (.ref p) H))
theorem call_tupleP : CallR X (.type "tuple") (rTupleP X.K) := by
  intro pins s σ H xs us Q I r h
  rcases h with ⟨p, ys, rfl, h⟩
  rcases vals1 r with ⟨u, rfl, rx⟩
  cases rx
  cases h with
  | inr h =>
    rcases I.tuple h.1 with ⟨its, r', pl, hz⟩
    exact call_tuple_same pl ⟨.ref p, H, I, rfl, h.2⟩
  | inl h =>
    rcases I.list h.1 with ⟨its, r', pl, hz⟩
    have hlen := r'.length
    refine call_tuple_list pl.isList (fun h' kp => ?_) (by rw [List.size_toArray]; omega)
    exact laidT (s := { s with heap := h' }) (I.kept (t' := s.toks) kp) r' rfl hz h.2 _ s.toks
end
end FW

set_option maxHeartbeats 4000000
namespace FW
open PySem L2

/-- what is wanted of an exception -/
abbrev EWt := Exn → L2.St → Ad → Hp → Prop
abbrev noX : EWt := fun _ _ _ _ => False

def Post {α β : Type} (K : PySem.W.Frag) (R : Ad → Hp → α → β → Prop) (EW : EWt) (σ : L2.St) (r : Ad) (H : Hp) (st' : Store) (Q : β → Hp → Prop) : Res α → Prop
  | .ok a => ∀ r' H' b, Sim K r' H' st' → Ext K r H r' H' → R r' H' a b → Q b H'
  | .exc x => ∀ r' H', Sim K r' H' st' → Ext K r H r' H' → EW x σ r' H'
def tX {α β : Type} (K : PySem.W.Frag) (R : Ad → Hp → α → β → Prop) (EW : EWt) (m : M α) : L2.St → Hp → (β → Hp → Prop) → Prop := fun σ H Q =>
  ∃ r e st out st', Sim K r H st ∧ RE K r H e σ ∧ m e st = some (out, st') ∧ Post K R EW σ r H st' Q out
def REq {α : Type} : Ad → Hp → α → α → Prop := fun _ _ a b => a = b
abbrev tE (K : PySem.W.Frag) (EW : EWt) (m : M D) : TE := tX K (RD K) EW m
abbrev tA (K : PySem.W.Frag) (EW : EWt) (m : M (List D)) : TA := tX K (RDs K) EW m
abbrev tT (K : PySem.W.Frag) (EW : EWt) (m : M Bool) : TT := tX K REq EW m

def bnd {α β : Type} (o : Option (Res α × Store)) (k : α → Store → Option (Res β × Store)) : Option (Res β × Store) :=
  match o with
  | some (.ok a, st) => k a st
  | some (.exc x, st) => some (.exc x, st)
  | none => none
def xbnd {α β : Type} (m : M α) (k : α → M β) : M β := fun e st => bnd (m e st) fun a st1 => k a e st1

section
variable {K : PySem.W.Frag} {EW : EWt} {α β γ δ : Type} {R : Ad → Hp → α → β → Prop} {R' : Ad → Hp → γ → δ → Prop} {r r' r1 : Ad} {H H' H1 : Hp} {st st' st1 : Store} {σ : L2.St} {e : Env}

theorem Post.later {Q : δ → Hp → Prop} {out : Res γ} (S : Sim K r H st) (S1 : Sim K r1 H1 st1) (x : Ext K r H r1 H1) (P : Post K R' EW σ r H st' Q out) : Post K R' EW σ r1 H1 st' Q out := by
  cases out with
  | ok a => exact fun r' H' b S' y => P r' H' b S' (x.trans' S S1 y)
  | exc a => exact fun r' H' S' y => P r' H' S' (x.trans' S S1 y)
theorem bnd_step {m : M α} {k : α → Store → Option (Res γ × Store)} {out : Res γ} {Q : δ → Hp → Prop} {Q1 : β → Hp → Prop} (S : Sim K r H st) (hE : RE K r H e σ) (h : bnd (m e st) k = some (out, st')) (P : Post K R' EW σ r H st' Q out)
    (next : ∀ r1 H1 b a st1, Sim K r1 H1 st1 → Ext K r H r1 H1 → RE K r1 H1 e σ → R r1 H1 a b → k a st1 = some (out, st') → Post K R' EW σ r1 H1 st' Q out → Q1 b H1) : tX K R EW m σ H Q1 := by
  cases q : m e st with
  | none => rw [q] at h; cases h
  | some p =>
    obtain ⟨o, st1⟩ := p
    rw [q] at h
    cases o with
    | ok a => exact ⟨r, e, st, .ok a, st1, S, hE, q, fun r1 H1 b S1 x hR => next r1 H1 b a st1 S1 x (hE.mono x) hR h (P.later S S1 x)⟩
    | exc x =>
      simp only [bnd, Option.some.injEq, Prod.mk.injEq] at h
      obtain ⟨rfl, rfl⟩ := h
      exact ⟨r, e, st, .exc x, st1, S, hE, q, P⟩
theorem tX.mono {m : M α} {Q Q' : β → Hp → Prop} (h : tX K R EW m σ H Q) (w : ∀ b H1, Q b H1 → Q' b H1) : tX K R EW m σ H Q' := by
  obtain ⟨r, e, st, out, st', S, hE, q, P⟩ := h
  refine ⟨r, e, st, out, st', S, hE, q, ?_⟩
  cases out with
  | ok a => exact fun r' H' b S' y hR => w _ _ (P r' H' b S' y hR)
  | exc a => exact P
end

/-! ### expressions -/
def E (X : Cx) (EW : EWt) (e : Expr) (m : M D) : Prop := PE X e (tE X.K EW m)
def T (X : Cx) (EW : EWt) (e : Expr) (m : M Bool) : Prop := PT X e (tT X.K EW m)
def TW (X : Cx) (EW : EWt) (e : Expr) (m : M Bool) : Prop := PW X e (tT X.K EW m)
def As (X : Cx) (EW : EWt) (es : List Expr) (m : M (List D)) : Prop := PA X es (tA X.K EW m)

theorem PE.weak {X : Cx} {e : Expr} {t t' : TE} (h : PE X e t) (w : ∀ σ H Q, t' σ H Q → t σ H Q) : PE X e t' := ⟨fun pins s σ H Q I q => h.run pins s σ H Q I (w σ H Q q)⟩
theorem PT.weak {X : Cx} {e : Expr} {t t' : TT} (h : PT X e t) (w : ∀ σ H Q, t' σ H Q → t σ H Q) : PT X e t' := ⟨fun pins s σ H Q I q => h.run pins s σ H Q I (w σ H Q q)⟩
theorem PW.weak {X : Cx} {e : Expr} {t t' : TT} (h : PW X e t) (w : ∀ σ H Q, t' σ H Q → t σ H Q) : PW X e t' := ⟨fun whole pins s σ H Q I q => h.run whole pins s σ H Q I (w σ H Q q)⟩
theorem PA.weak {X : Cx} {e : List Expr} {t t' : TA} (h : PA X e t) (w : ∀ σ H Q, t' σ H Q → t σ H Q) : PA X e t' := ⟨fun pos pins s σ H Q I q => h.run pos pins s σ H Q I (w σ H Q q)⟩
theorem PS.weak {X : Cx} {e : Stmt} {t t' : TS} (h : PS X e t) (w : ∀ D σ H, t' D σ H → t D σ H) : PS X e t' := ⟨fun pins s σ H Q I q => h.run pins s σ H Q I (w Q σ H q)⟩
theorem PSs.weak {X : Cx} {e : List Stmt} {t t' : TS} (h : PSs X e t) (w : ∀ D σ H, t' D σ H → t D σ H) : PSs X e t' := ⟨fun pins s σ H Q I q => h.run pins s σ H Q I (w Q σ H q)⟩

/-- a name -/
def xV (i : Nat) : M D := fun e st => match e[i]? with
  | some (some d) => some (.ok d, st)
  | _ => none
/-- a value -/
def xC (d : D) : M D := fun _ st => some (.ok d, st)
/-- what raises nothing -/
def ok0 {α : Type} : Option (α × Store) → Option (Res α × Store)
  | some (a, st) => some (.ok a, st)
  | none => none
abbrev F1 := D → Store → Option (D × Store)
abbrev F2 := D → D → Store → Option (D × Store)
abbrev Fn0 := List D → Store → Option (D × Store)
def x1 (f : F1) (a : M D) : M D := xbnd a fun d _ st => ok0 (f d st)
def x2 (f : F2) (a b : M D) : M D := xbnd a fun d => xbnd b fun c _ st => ok0 (f d c st)
/-- a call by values -/
def xN (F : Fn0) (as : M (List D)) : M D := xbnd as fun ds _ st => ok0 (F ds st)
def aN : M (List D) := fun _ st => some (.ok [], st)
def aC (a : M D) (as : M (List D)) : M (List D) := xbnd a fun d => xbnd as fun ds _ st => some (.ok (d :: ds), st)
def xTup (as : M (List D)) : M D := xbnd as fun ds _ st => if ds.length ≤ sizeLine then some (.ok (.tup ds), st) else none
/-- a list, made here -/
def xLst (as : M (List D)) : M Ob := xbnd as fun ds _ st => if ds.length ≤ sizeLine then some (.ok (.lst ds), st) else none
/-- what was made here: a value that nobody changes | an object of the store -/
def xVal (a : M Ob) : M D := xbnd a fun o _ st => match o with
  | .lst ds => some (.ok (.lst ds), st)
  | .dct ks ds => some (.ok (.dct ks ds), st)
  | .flst _ => none
  | .fdct _ _ => none
def xNew (a : M Ob) : M D := xbnd a fun o _ st => some (.ok (.ref st.length), st ++ [o])

/-- a thing that is made here and stands at p, not seen by any other -/
def PostF (K : PySem.W.Frag) (EW : EWt) (σ : L2.St) (r : Ad) (H : Hp) (st' : Store) (Q : VK) : Res Ob → Prop
  | .ok ob => ∀ r' H' p, Sim K ⟨r'.r, p :: r'.x⟩ H' st' → Ext K r H r' H' → p ∉ r'.x → RO K ⟨r'.r, p :: r'.x⟩ H' ob (H' p) → H p = none → Q (.ref p) H'
  | .exc x => ∀ r' H', Sim K r' H' st' → Ext K r H r' H' → EW x σ r' H'
def tF (K : PySem.W.Frag) (EW : EWt) (m : M Ob) : TE := fun σ H Q =>
  ∃ r e st out st', Sim K r H st ∧ RE K r H e σ ∧ m e st = some (out, st') ∧ PostF K EW σ r H st' Q out
def EF (X : Cx) (EW : EWt) (e : Expr) (m : M Ob) : Prop := PE X e (tF X.K EW m)
section
variable {K : PySem.W.Frag} {EW : EWt} {γ δ : Type} {R' : Ad → Hp → γ → δ → Prop} {r r' r1 : Ad} {H H' H1 : Hp} {st st' st1 : Store} {σ : L2.St} {e : Env}
theorem fresh_back (S : Sim K r H st) (S1 : Sim K r1 H1 st1) (x : Ext K r H r1 H1) {p : Addr} (h : H1 p = none) : H p = none := by
  cases q : H p with
  | none => rfl
  | some o =>
    by_cases m : p ∈ r.r
    · obtain ⟨l, e, _⟩ := x.pre
      exact absurd h (S1.there (by rw [e]; exact List.mem_append_left _ m))
    · exact absurd h (x.keep p o q m).ne
theorem bnd_stepF {m : M Ob} {k : Ob → Store → Option (Res γ × Store)} {out : Res γ} {Q : δ → Hp → Prop} {Q1 : VK} (S : Sim K r H st) (hE : RE K r H e σ) (h : bnd (m e st) k = some (out, st')) (P : Post K R' EW σ r H st' Q out)
    (next : ∀ r1 H1 p ob st1, Sim K ⟨r1.r, p :: r1.x⟩ H1 st1 → Ext K r H r1 H1 → p ∉ r1.x → RO K ⟨r1.r, p :: r1.x⟩ H1 ob (H1 p) → H p = none → k ob st1 = some (out, st') → Q1 (.ref p) H1) : tF K EW m σ H Q1 := by
  cases q : m e st with
  | none => rw [q] at h; cases h
  | some p =>
    obtain ⟨o, st1⟩ := p
    rw [q] at h
    cases o with
    | ok a => exact ⟨r, e, st, .ok a, st1, S, hE, q, fun r1 H1 p S1 x nx hR hp => next r1 H1 p a st1 S1 x nx hR hp h⟩
    | exc x =>
      simp only [bnd, Option.some.injEq, Prod.mk.injEq] at h
      obtain ⟨rfl, rfl⟩ := h
      exact ⟨r, e, st, .exc x, st1, S, hE, q, P⟩
/-- the same ahead of a thing made here -/
theorem bnd_stepO {α β : Type} {R : Ad → Hp → α → β → Prop} {m : M α} {k : α → Store → Option (Res Ob × Store)} {out : Res Ob} {Q : VK} {Q1 : β → Hp → Prop} (S : Sim K r H st) (hE : RE K r H e σ) (h : bnd (m e st) k = some (out, st')) (P : PostF K EW σ r H st' Q out)
    (next : ∀ r1 H1 b a st1, Sim K r1 H1 st1 → Ext K r H r1 H1 → RE K r1 H1 e σ → R r1 H1 a b → k a st1 = some (out, st') → Q1 b H1) : tX K R EW m σ H Q1 := by
  cases q : m e st with
  | none => rw [q] at h; cases h
  | some p =>
    obtain ⟨o, st1⟩ := p
    rw [q] at h
    cases o with
    | ok a => exact ⟨r, e, st, .ok a, st1, S, hE, q, fun r1 H1 b S1 x hR => next r1 H1 b a st1 S1 x (hE.mono x) hR h⟩
    | exc x =>
      simp only [bnd, Option.some.injEq, Prod.mk.injEq] at h
      obtain ⟨rfl, rfl⟩ := h
      exact ⟨r, e, st, .exc x, st1, S, hE, q, P⟩
theorem PostF.later {Q : VK} {out : Res Ob} (S : Sim K r H st) (S1 : Sim K r1 H1 st1) (x : Ext K r H r1 H1) (P : PostF K EW σ r H st' Q out) : PostF K EW σ r1 H1 st' Q out := by
  cases out with
  | exc y => exact fun r' H' S' z => P r' H' S' (x.trans' S S1 z)
  | ok ob => exact fun r' H' p S' z nx q hp => P r' H' p S' (x.trans' S S1 z) nx q (fresh_back S S1 x hp)
/-- laid at once -/
theorem PostF.lay {Q : VK} {ob : Ob} {o : HO} {p : Addr} (S : Sim K r H st) (S1 : Sim K r1 H1 st1) (x1 : Ext K r H r1 H1) (P : PostF K EW σ r H st1 Q (.ok ob)) (hp : H1 p = none) (q : RO K r1 H1 ob (some o)) : Q (.ref p) (upd H1 p o) := by
  obtain ⟨S2, t2⟩ := S1.hide (o := o) hp
  obtain ⟨_, x2⟩ := S1.side (o := o) hp
  refine P r1 _ p S2 (x1.trans' S S1 x2) (S1.notin hp).2 ?_ (fresh_back S S1 x1 hp)
  rw [upd_same]
  exact q.tr t2
end

section
variable {X : Cx} {EW : EWt}
theorem e_var (i : Nat) {x : Str} {pos : Pos} (hN : X.N[i]? = some x := by rfl) (hv : Vis X.env.scope x := by first | exact Or.inl rfl | exact Or.inr (Or.inl rfl) | exact Or.inr (Or.inr rfl)) (hd : (x == ("__debug__" : Str)) = false := by decide)
    (hcd : (x == ("__classdict__" : Str)) = false := by decide) : E X EW (.Name x pos) (xV i) := by
  refine PE.weak (pe_var hN hv hd hcd) ?_
  rintro σ H Q ⟨r, e, st, out, st', S, hE, h, P⟩
  unfold xV at h
  split at h
  · rename_i d hd
    cases h
    obtain ⟨v, h1, h2⟩ := hE.at' i d hd
    exact ⟨v, h1, P r H v S (Ext.refl _ _ _) h2⟩
  · cases h
theorem e_c {e : Expr} {d : D} {v : V} (h : PE X e (tC v)) (hr : ∀ r H, RD X.K r H d v) : E X EW e (xC d) := by
  refine PE.weak h ?_
  rintro σ H Q ⟨r, e, st, out, st', S, hE, h, P⟩
  cases h
  exact P r H v S (Ext.refl _ _ _) (hr r H)
theorem e_int {i : Int} {j pos} : E X EW (.Constant (.int i) j pos) (xC (.int i)) := e_c pe_int fun _ _ => by simp only [RD]
theorem e_bl {b : Bool} {j pos} : E X EW (.Constant (.bool b) j pos) (xC (.bl b)) := e_c pe_bl fun _ _ => by simp only [RD]
theorem e_non {j pos} : E X EW (.Constant .none j pos) (xC .non) := e_c pe_non fun _ _ => by simp only [RD]
theorem e_str {x : Str} {j pos} : E X EW (.Constant (.str x) j pos) (xC (.str x)) := e_c pe_str fun _ _ => by simp only [RD]
/-- a constant of the module -/
theorem e_glob {x : Str} {d : D} {v : V} {u : Value} {pos : Pos} (hg : Gl X x) (hm : X.mg x = some u) (rv : RelV v u) (hr : ∀ r H, RD X.K r H d v) (hd : (x == ("__debug__" : Str)) = false := by decide) : E X EW (.Name x pos) (xC d) := e_c (pe_glob hg hm rv hd) hr

/-- what is wanted of a value -/
def Ok (K : PySem.W.Frag) (r : Ad) (H : Hp) (Q : VK) (z : D) (st' : Store) : Prop := ∀ r' H' v, Sim K r' H' st' → Ext K r H r' H' → RD K r' H' z v → Q v H'
theorem Ok.here {K : PySem.W.Frag} {r : Ad} {H : Hp} {Q : VK} {z : D} {st : Store} {v : V} (P : Ok K r H Q z st) (S : Sim K r H st) (h : RD K r H z v) : Q v H := P r H v S (Ext.refl _ _ _) h
theorem ok0_some {α : Type} {o : Option (α × Store)} {out : Res α} {st' : Store} (h : ok0 o = some (out, st')) : ∃ z, o = some (z, st') ∧ out = .ok z := by
  cases o with
  | none => cases h
  | some p => cases h; exact ⟨p.1, rfl, rfl⟩
/-- an operator by values -/
def OpS (K : PySem.W.Frag) (rr : R2) (f : F2) : Prop := ∀ r H st d c x y z st' Q,
  Sim K r H st → RD K r H d x → RD K r H c y → f d c st = some (z, st') → Ok K r H Q z st' → rr x y H Q
theorem e_op {a b : Expr} {op : Operator} {pos : Pos} {rr : R2} {f : F2} {ma mb : M D} (ho : OpR X (binaryOp op) rr) (hf : OpS X.K rr f) (ha : E X EW a ma) (hb : E X EW b mb) : E X EW (.BinOp a op b pos) (x2 f ma mb) := by
  refine PE.weak (pe_op ho ha hb) ?_
  rintro σ H Q ⟨r, e, st, out, st', S, hE, h, P⟩
  refine bnd_step S hE h P fun r1 H1 x d st1 S1 x1 hE1 hd h1 P1 => bnd_step S1 hE1 h1 P1 fun r2 H2 y c st2 S2 x2 hE2 hc h2 P2 => ?_
  obtain ⟨z, h3, rfl⟩ := ok0_some h2
  exact hf r2 H2 st2 d c x y z st' Q S2 (hd.mono x2) hc h3 P2
theorem e_cmp {a b : Expr} {op : CmpOp} {pos : Pos} {rr : R2} {f : F2} {ma mb : M D} (ho : OpR X (compareOp op) rr) (hf : OpS X.K rr f) (ha : E X EW a ma) (hb : E X EW b mb) (hm : behindInMarks op b = false := by rfl) :
    E X EW (.Compare a [op] [b] pos) (x2 f ma mb) := by
  refine PE.weak (pe_cmpR ho ha hb hm) ?_
  rintro σ H Q ⟨r, e, st, out, st', S, hE, h, P⟩
  refine bnd_step S hE h P fun r1 H1 x d st1 S1 x1 hE1 hd h1 P1 => bnd_step S1 hE1 h1 P1 fun r2 H2 y c st2 S2 x2 hE2 hc h2 P2 => ?_
  obtain ⟨z, h3, rfl⟩ := ok0_some h2
  exact hf r2 H2 st2 d c x y z st' Q S2 (hd.mono x2) hc h3 P2
def UnS (K : PySem.W.Frag) (rr : V → Hp → VK → Prop) (f : F1) : Prop := ∀ r H st d x z st' Q,
  Sim K r H st → RD K r H d x → f d st = some (z, st') → Ok K r H Q z st' → rr x H Q
theorem e_un {a : Expr} {op : UnaryOp} {pos : Pos} {rr : V → Hp → VK → Prop} {f : F1} {ma : M D} (ho : UnR X (unaryOp op) rr) (hf : UnS X.K rr f) (ha : E X EW a ma) : E X EW (.UnaryOp op a pos) (x1 f ma) := by
  refine PE.weak (pe_un ho ha) ?_
  rintro σ H Q ⟨r, e, st, out, st', S, hE, h, P⟩
  refine bnd_step S hE h P fun r1 H1 x d st1 S1 x1 hE1 hd h1 P1 => ?_
  obtain ⟨z, h3, rfl⟩ := ok0_some h1
  exact hf r1 H1 st1 d x z st' Q S1 hd h3 P1
/-- a built-in function, a type, a method by values -/
def CallS (K : PySem.W.Frag) (rr : List V → Hp → VK → Prop) (F : Fn0) : Prop := ∀ r H st ds vs z st' Q,
  Sim K r H st → RDs K r H ds vs → F ds st = some (z, st') → Ok K r H Q z st' → rr vs H Q
theorem a_nil : As X EW [] aN := by
  refine PA.weak pa_nil ?_
  rintro σ H Q ⟨r, e, st, out, st', S, hE, h, P⟩
  cases h
  exact P r H [] S (Ext.refl _ _ _) RDs.nil
theorem a_cons {a : Expr} {es : List Expr} {ma : M D} {ms : M (List D)} (ha : E X EW a ma) (hs : As X EW es ms) (hst : starEach (a :: es) X.env = (false, eval a X.env) :: starEach es X.env := by rfl) : As X EW (a :: es) (aC ma ms) := by
  refine PA.weak (pa_cons ha hs hst) ?_
  rintro σ H Q ⟨r, e, st, out, st', S, hE, h, P⟩
  refine bnd_step S hE h P fun r1 H1 x d st1 S1 x1 hE1 hd h1 P1 => bnd_step S1 hE1 h1 P1 fun r2 H2 y c st2 S2 x2 hE2 hc h2 P2 => ?_
  cases h2
  exact P2 r2 H2 _ S2 (Ext.refl _ _ _) (RDs.cons (hd.mono x2) hc)
theorem e_tup {es : List Expr} {ms : M (List D)} {k} {pos : Pos} (h : As X EW es ms) : E X EW (.Tuple es k pos) (xTup ms) := by
  refine PE.weak (pe_tupP h) ?_
  rintro σ H Q ⟨r, e, st, out, st', S, hE, h, P⟩
  refine bnd_step S hE h P fun r1 H1 vs ds st1 S1 x1 hE1 hd h1 P1 => ?_
  dsimp only at h1
  split at h1
  · rename_i hl
    cases h1
    refine ⟨by rw [← hd.length]; exact hl, fun p o ho hp => ?_⟩
    obtain ⟨S2, x2⟩ := S1.side (o := .frz o (.tup vs)) hp
    exact P1 r1 _ _ S2 x2 (by simp only [RD]; exact ⟨p, vs, rfl, ⟨.inl (.inr ⟨o, upd_same⟩), fun _ => .inl ⟨o, ho, upd_same⟩⟩, hd.mono x2⟩)
  · cases h1
theorem f_lst {es : List Expr} {ms : M (List D)} {pos : Pos} (h : As X EW es ms) : EF X EW (.List es pos) (xLst ms) := by
  refine PE.weak (pe_lst h) ?_
  rintro σ H Q ⟨r, e, st, out, st', S, hE, h, P⟩
  refine bnd_stepO S hE h P fun r1 H1 vs ds st1 S1 x1 hE1 hd h1 => ?_
  dsimp only at h1
  split at h1
  · rename_i hl
    cases h1
    exact ⟨by rw [← hd.length]; exact hl, fun p hp => P.lay S S1 x1 hp ⟨vs, rfl, hd⟩⟩
  · cases h1
theorem val_weak {K : PySem.W.Frag} {m : M Ob} {σ : L2.St} {H : Hp} {Q : VK} (h : tE K EW (xVal m) σ H Q) : tF K EW m σ H Q := by
  obtain ⟨r, e, st, out, st', S, hE, h, P⟩ := h
  refine bnd_stepF S hE h P fun r1 H1 p ob st1 S1 x1 nx q hp h1 => ?_
  have np : p ∉ r1.r := (S1.xs p List.mem_cons_self).2
  obtain ⟨S2, t2⟩ := S1.bare
  cases ob with
  | lst ds =>
    cases h1
    obtain ⟨vs, e1, hd⟩ := q
    exact P r1 H1 _ S2 x1 (by simp only [RD]; exact ⟨p, vs, rfl, e1, ⟨np, nx⟩, hd.tr t2⟩)
  | dct ks ds =>
    cases h1
    obtain ⟨kvs, e1, hk, hd⟩ := q
    exact P r1 H1 _ S2 x1 (by simp only [RD]; exact ⟨p, kvs, rfl, .inl e1, ⟨np, nx⟩, hk, hd.tr t2⟩)
  | flst ds => cases h1
  | fdct ks ds => cases h1
theorem new_weak {K : PySem.W.Frag} {m : M Ob} {σ : L2.St} {H : Hp} {Q : VK} (h : tE K EW (xNew m) σ H Q) : tF K EW m σ H Q := by
  obtain ⟨r, e, st, out, st', S, hE, h, P⟩ := h
  refine bnd_stepF S hE h P fun r1 H1 p ob st1 S1 x1 nx q hp h1 => ?_
  obtain ⟨S2, t2⟩ := S1.join nx q
  cases h1
  obtain ⟨l, e1, hl⟩ := x1.pre
  refine P ⟨r1.r ++ [p], r1.x⟩ H1 _ S2 ⟨x1.x, ⟨l ++ [p], by simp [e1], fun a m => ?_⟩, x1.keep, x1.tup⟩ (by
    simp only [RD]
    refine ⟨p, ?_, rfl⟩
    have ll : r1.r.length = st1.length := S1.len
    show (r1.r ++ [p])[st1.length]? = some p
    rw [← ll]; simp)
  · rcases List.mem_append.mp m with m | m
    · exact hl a m
    · simp at m; rw [m]; exact hp
theorem e_val {e : Expr} {m : M Ob} (h : EF X EW e m) : E X EW e (xVal m) := PE.weak h fun _ _ _ => val_weak
theorem e_new {e : Expr} {m : M Ob} (h : EF X EW e m) : E X EW e (xNew m) := PE.weak h fun _ _ _ => new_weak
end
end FW

set_option maxHeartbeats 4000000
namespace FW
open PySem L2

/-! ### tests -/
/-- a value's truth -/
def truB (d : D) (st : Store) : Option Bool :=
  match d with
  | .non => some false
  | .bl b => some b
  | .int i => some (i != 0)
  | .str y => if y.length ≤ sizeLine then some ((y.length : Int) != 0) else none
  | .tup ds => some !ds.isEmpty
  | .ztp _ => none
  | .lst ds => some !ds.isEmpty
  | .dct _ _ => none
  | .ref n => match st[n]? with
    | some (.lst ds) => some !ds.isEmpty
    | some (.flst ds) => some !ds.isEmpty
    | some (.dct ks _) => some !ks.isEmpty
    | some (.fdct _ _) => none
    | none => none
  | .cst _ => none
  | .oth _ => none
/-- a test: the truth of a value | of a comparison -/
def xTru (m : M D) : M Bool := xbnd m fun d _ st => match truB d st with
  | some b => some (.ok b, st)
  | none => none
def xTst (m : M D) : M Bool := xbnd m fun d _ st => match d with
  | .bl b => some (.ok b, st)
  | _ => none
def xNot (m : M Bool) : M Bool := xbnd m fun b _ st => some (.ok !b, st)
def xAnd (a b : M Bool) : M Bool := xbnd a fun x => if x = true then b else fun _ st => some (.ok false, st)
def xOr (a b : M Bool) : M Bool := xbnd a fun x => if x = true then fun _ st => some (.ok true, st) else b
def xIf {α : Type} (t : M Bool) (a b : M α) : M α := xbnd t fun x => if x = true then a else b
/-- not x as a value; x and y, x or y as values -/
def xNotV (m : M D) : M D := xbnd m fun d _ st => match truB d st with
  | some b => some (.ok (.bl !b), st)
  | none => none
def xAndV (a b : M D) : M D := xbnd a fun d e st => match truB d st with
  | some true => b e st
  | some false => some (.ok d, st)
  | none => none
def xOrV (a b : M D) : M D := xbnd a fun d e st => match truB d st with
  | some true => some (.ok d, st)
  | some false => b e st
  | none => none

theorem RDs.isEmpty {K : PySem.W.Frag} {r : Ad} {H : Hp} {ds : List D} {vs : List V} (h : RDs K r H ds vs) : ds.isEmpty = vs.isEmpty := by
  have := h.length
  cases ds <;> cases vs <;> simp_all
theorem truV_of {K : PySem.W.Frag} {r : Ad} {H : Hp} {st : Store} {d : D} {v : V} {b : Bool} (S : Sim K r H st) (h : RD K r H d v) (e : truB d st = some b) : TruV K v H b := by
  cases d with
  | non => simp only [RD] at h; subst h; simp only [truB] at e; cases e; rfl
  | bl c => simp only [RD] at h; subst h; simp only [truB] at e; cases e; rfl
  | int i => simp only [RD] at h; subst h; simp only [truB] at e; cases e; rfl
  | str y =>
    simp only [RD] at h; subst h
    simp only [truB] at e
    split at e
    · cases e; exact ⟨by assumption, rfl⟩
    · cases e
  | tup ds =>
    simp only [RD] at h
    obtain ⟨a, vs, rfl, s, q⟩ := h
    simp only [truB] at e; cases e
    exact .inr (.inl ⟨vs, s.1, by rw [q.isEmpty]⟩)
  | lst ds =>
    simp only [RD] at h
    obtain ⟨a, vs, rfl, s, n, q⟩ := h
    simp only [truB] at e; cases e
    exact .inl ⟨vs, .of s, by rw [q.isEmpty]⟩
  | dct ks ds => cases e
  | ref n =>
    simp only [truB] at e
    cases q : st[n]? with
    | none => rw [q] at e; cases e
    | some o =>
      obtain ⟨a, rfl, h1, h2⟩ := S.at_ h q
      rw [q] at e
      cases o with
      | lst ds => obtain ⟨vs, e1, t⟩ := h2; cases e; exact .inl ⟨vs, .of e1, by rw [t.isEmpty]⟩
      | flst ds => obtain ⟨o, vs, e1, t⟩ := h2; cases e; exact .inl ⟨vs, .inl (.inr ⟨o, e1⟩), by rw [t.isEmpty]⟩
      | dct ks ds => obtain ⟨kvs, e1, k, t⟩ := h2; cases e; exact .inr (.inr ⟨kvs, e1, by subst k; cases kvs <;> rfl⟩)
      | fdct ks ds => cases e
  | cst c => cases e
  | oth x => cases e
  | ztp ds => cases e

section
variable {X : Cx} {EW : EWt}
theorem T.pt {e : Expr} {m : M Bool} (h : TW X EW e m) : T X EW e m := PW.pt h
theorem t_tru {a : Expr} {m : M D} (h : E X EW a m) (he : ∀ whole, isTrue a X.env whole = (do let v ← whole; standAt a.pos; holding [v] (truthy v)) := by intro _; rfl) : T X EW a (xTru m) := by
  refine PT.weak (pt_truth h he) ?_
  rintro σ H Q ⟨r, e, st, out, st', S, hE, h, P⟩
  refine bnd_step S hE h P fun r1 H1 x d st1 S1 x1 hE1 hd h1 P1 => ?_
  dsimp only at h1
  split at h1
  · rename_i b hb
    cases h1
    exact ⟨b, truV_of S1 hd hb, P1 r1 H1 b S1 (Ext.refl _ _ _) rfl⟩
  · cases h1
theorem t_cmp {a b : Expr} {op : CmpOp} {pos : Pos} {rr : R2} {f : F2} {ma mb : M D} (ho : OpR X (compareOp op) rr) (hf : OpS X.K rr f) (ha : E X EW a ma) (hb : E X EW b mb) (hm : behindInMarks op b = false := by rfl) :
    T X EW (.Compare a [op] [b] pos) (xTst (x2 f ma mb)) := by
  refine PT.weak (pt_cmpR ho ha hb hm) ?_
  rintro σ H Q ⟨r, e, st, out, st', S, hE, h, P⟩
  have h' : bnd (ma e st) (fun d st1 => bnd (mb e st1) fun c st2 => bnd (ok0 (f d c st2)) fun z st3 => match z with | .bl b => some (.ok b, st3) | _ => none) = some (out, st') := by
    have h : bnd (bnd (ma e st) fun d st1 => bnd (mb e st1) fun c st2 => ok0 (f d c st2)) _ = _ := h
    cases q : ma e st with
    | none => rw [q] at h; cases h
    | some p =>
      obtain ⟨o, s1⟩ := p
      rw [q] at h
      cases o with
      | exc x => exact h
      | ok d =>
        replace h : bnd (bnd (mb e s1) fun c st2 => ok0 (f d c st2)) _ = _ := h
        show bnd (mb e s1) _ = _
        cases q2 : mb e s1 with
        | none => rw [q2] at h; cases h
        | some p =>
          obtain ⟨o, s2⟩ := p
          rw [q2] at h
          cases o with
          | exc x => exact h
          | ok c => exact h
  refine bnd_step S hE h' P fun r1 H1 x d st1 S1 x1 hE1 hd h1 P1 => bnd_step S1 hE1 h1 P1 fun r2 H2 y c st2 S2 x2 hE2 hc h2 P2 => ?_
  cases q : f d c st2 with
  | none => rw [q] at h2; cases h2
  | some p =>
    obtain ⟨z, st3⟩ := p
    rw [q] at h2
    refine hf r2 H2 st2 d c x y z st3 _ S2 (hd.mono x2) hc q fun r3 H3 v S3 x3 hz => ?_
    cases z with
    | bl b =>
      simp only [RD] at hz
      subst hz
      cases h2
      exact ⟨b, rfl, P2 r3 H3 b S3 x3 rfl⟩
    | _ => cases h2
theorem t_not {a : Expr} {pos : Pos} {m : M Bool} (h : T X EW a m) : T X EW (.UnaryOp .Not a pos) (xNot m) := by
  refine PT.weak (pt_not h) ?_
  rintro σ H Q ⟨r, e, st, out, st', S, hE, h, P⟩
  refine bnd_step S hE h P fun r1 H1 x d st1 S1 x1 hE1 hd h1 P1 => ?_
  cases hd
  cases h1
  exact P1 r1 H1 _ S1 (Ext.refl _ _ _) rfl
theorem tw_and1 {a : Expr} {pos : Pos} {m : M Bool} (h : T X EW a m) : TW X EW (.BoolOp .And [a] pos) m := pw_and1 h
theorem tw_or1 {a : Expr} {pos : Pos} {m : M Bool} (h : T X EW a m) : TW X EW (.BoolOp .Or [a] pos) m := pw_or1 h
theorem tw_and {a b : Expr} {rest : List Expr} {pos : Pos} {m n : M Bool} (h : T X EW a m) (h2 : TW X EW (.BoolOp .And (b :: rest) pos) n) : TW X EW (.BoolOp .And (a :: b :: rest) pos) (xAnd m n) := by
  refine PW.weak (pw_and h h2) ?_
  rintro σ H Q ⟨r, e, st, out, st', S, hE, h, P⟩
  refine bnd_step S hE h P fun r1 H1 x d st1 S1 x1 hE1 hd h1 P1 => ?_
  cases hd
  cases x with
  | true => exact ⟨r1, e, st1, out, st', S1, hE1, h1, P1⟩
  | false => cases h1; exact P1 r1 H1 _ S1 (Ext.refl _ _ _) rfl
theorem tw_or {a b : Expr} {rest : List Expr} {pos : Pos} {m n : M Bool} (h : T X EW a m) (h2 : TW X EW (.BoolOp .Or (b :: rest) pos) n) : TW X EW (.BoolOp .Or (a :: b :: rest) pos) (xOr m n) := by
  refine PW.weak (pw_or h h2) ?_
  rintro σ H Q ⟨r, e, st, out, st', S, hE, h, P⟩
  refine bnd_step S hE h P fun r1 H1 x d st1 S1 x1 hE1 hd h1 P1 => ?_
  cases hd
  cases x with
  | true => cases h1; exact P1 r1 H1 _ S1 (Ext.refl _ _ _) rfl
  | false => exact ⟨r1, e, st1, out, st', S1, hE1, h1, P1⟩
theorem e_if {c a b : Expr} {pos : Pos} {t : M Bool} {ma mb : M D} (hc : T X EW c t) (ha : E X EW a ma) (hb : E X EW b mb) : E X EW (.IfExp c a b pos) (xIf t ma mb) := by
  refine PE.weak (pe_ifExp hc ha hb) ?_
  rintro σ H Q ⟨r, e, st, out, st', S, hE, h, P⟩
  refine bnd_step S hE h P fun r1 H1 x d st1 S1 x1 hE1 hd h1 P1 => ?_
  cases hd
  cases x with
  | true => exact ⟨r1, e, st1, out, st', S1, hE1, h1, P1⟩
  | false => exact ⟨r1, e, st1, out, st', S1, hE1, h1, P1⟩
/-- a conditional expression, one way at a time: lists made here -/
theorem f_if {c a b : Expr} {pos : Pos} {t : M Bool} {ma mb : M Ob} (hc : T X EW c t) (ha : EF X EW a ma) (hb : EF X EW b mb) : EF X EW (.IfExp c a b pos) (xIf t ma mb) := by
  refine PE.weak (pe_ifExp hc ha hb) ?_
  rintro σ H Q ⟨r, e, st, out, st', S, hE, h, P⟩
  refine bnd_stepO S hE h P fun r1 H1 x d st1 S1 x1 hE1 hd h1 => ?_
  have P1 := P.later S S1 x1
  cases hd
  cases x with
  | true => exact ⟨r1, e, st1, out, st', S1, hE1, h1, P1⟩
  | false => exact ⟨r1, e, st1, out, st', S1, hE1, h1, P1⟩
theorem e_not {a : Expr} {pos : Pos} {m : M D} (h : E X EW a m) : E X EW (.UnaryOp .Not a pos) (xNotV m) := by
  refine PE.weak (pe_notT h) ?_
  rintro σ H Q ⟨r, e, st, out, st', S, hE, h, P⟩
  refine bnd_step S hE h P fun r1 H1 x d st1 S1 x1 hE1 hd h1 P1 => ?_
  dsimp only at h1
  split at h1
  · rename_i b hb
    cases h1
    exact ⟨b, truV_of S1 hd hb, P1 r1 H1 (.bl !b) S1 (Ext.refl _ _ _) (by simp only [RD])⟩
  · cases h1
theorem e_one {op} {a : Expr} {pos : Pos} {m : M D} (h : E X EW a m) : E X EW (.BoolOp op [a] pos) m := pe_one h
theorem e_and {a b : Expr} {rest : List Expr} {pos : Pos} {m n : M D} (h : E X EW a m) (h2 : E X EW (.BoolOp .And (b :: rest) pos) n) : E X EW (.BoolOp .And (a :: b :: rest) pos) (xAndV m n) := by
  refine PE.weak (pe_andT h h2) ?_
  rintro σ H Q ⟨r, e, st, out, st', S, hE, h, P⟩
  refine bnd_step S hE h P fun r1 H1 x d st1 S1 x1 hE1 hd h1 P1 => ?_
  dsimp only at h1
  split at h1
  · rename_i hb
    exact ⟨true, truV_of S1 hd hb, by rw [if_pos rfl]; exact ⟨r1, e, st1, out, st', S1, hE1, h1, P1⟩⟩
  · rename_i hb
    cases h1
    exact ⟨false, truV_of S1 hd hb, by rw [if_neg Bool.false_ne_true]; exact P1 r1 H1 _ S1 (Ext.refl _ _ _) hd⟩
  · cases h1
theorem e_or {a b : Expr} {rest : List Expr} {pos : Pos} {m n : M D} (h : E X EW a m) (h2 : E X EW (.BoolOp .Or (b :: rest) pos) n) : E X EW (.BoolOp .Or (a :: b :: rest) pos) (xOrV m n) := by
  refine PE.weak (pe_orT h h2) ?_
  rintro σ H Q ⟨r, e, st, out, st', S, hE, h, P⟩
  refine bnd_step S hE h P fun r1 H1 x d st1 S1 x1 hE1 hd h1 P1 => ?_
  dsimp only at h1
  split at h1
  · rename_i hb
    cases h1
    exact ⟨true, truV_of S1 hd hb, by rw [if_pos rfl]; exact P1 r1 H1 _ S1 (Ext.refl _ _ _) hd⟩
  · rename_i hb
    exact ⟨false, truV_of S1 hd hb, by rw [if_neg Bool.false_ne_true]; exact ⟨r1, e, st1, out, st', S1, hE1, h1, P1⟩⟩
  · cases h1
end
end FW

set_option maxHeartbeats 4000000
namespace FW
open PySem L2

/-! ### statements -/
def PostS (K : PySem.W.Frag) (EW : EWt) (r : Ad) (H : Hp) (st' : Store) (D : Ends) : SR → Prop
  | .nx e' => ∀ r' H' σ', Sim K r' H' st' → Ext K r H r' H' → RE K r' H' e' σ' → D.nx σ' H'
  | .bk e' => ∀ r' H' σ', Sim K r' H' st' → Ext K r H r' H' → RE K r' H' e' σ' → D.bk σ' H'
  | .ct e' => ∀ r' H' σ', Sim K r' H' st' → Ext K r H r' H' → RE K r' H' e' σ' → D.ct σ' H'
  | .rt d => ∀ r' H' v, Sim K r' H' st' → Ext K r H r' H' → RD K r' H' d v → D.rt v H'
  | .exc x e' => ∀ r' H' σ', Sim K r' H' st' → Ext K r H r' H' → RE K r' H' e' σ' → EW x σ' r' H'
def tS (K : PySem.W.Frag) (EW : EWt) (m : MS) : TS := fun D σ H => ∃ r e st out st', Sim K r H st ∧ RE K r H e σ ∧ m e st = some (out, st') ∧ PostS K EW r H st' D out
def S_ (X : Cx) (EW : EWt) (s : Stmt) (m : MS) : Prop := PS X s (tS X.K EW m)
def Ss (X : Cx) (EW : EWt) (ss : List Stmt) (m : MS) : Prop := PSs X ss (tS X.K EW m)

def sNil : MS := fun e st => some (.nx e, st)
def sBreak : MS := fun e st => some (.bk e, st)
def sCont : MS := fun e st => some (.ct e, st)
def sSeq (m n : MS) : MS := fun e st => match m e st with
  | some (.nx e1, st1) => n e1 st1
  | o => o
def bndS {α : Type} (o : Option (Res α × Store)) (e : Env) (k : α → Store → Option (SR × Store)) : Option (SR × Store) :=
  match o with
  | some (.ok a, st) => k a st
  | some (.exc x, st) => some (.exc x e, st)
  | none => none
def sEx (m : M D) : MS := fun e st => bndS (m e st) e fun _ st1 => some (.nx e, st1)
def sRet (m : M D) : MS := fun e st => bndS (m e st) e fun d st1 => some (.rt d, st1)
def sRetN : MS := fun _ st => some (.rt .non, st)
def sIf (t : M Bool) (a b : MS) : MS := fun e st => bndS (t e st) e fun c st1 => if c = true then a e st1 else b e st1
/-- targets -/
abbrev MG := D → Env → Store → Option (Env × Store)
abbrev MGs := List D → Env → Store → Option (Env × Store)
def sAsg (m : M D) (g : MG) : MS := fun e st => bndS (m e st) e fun d st1 => (g d e st1).map fun p => (.nx p.1, p.2)
def gN (i : Nat) : MG := fun d e st => some (e.set i (some d), st)
def gsN : MGs := fun ds e st => match ds with
  | [] => some (e, st)
  | _ => none
def gsC (g : MG) (gs : MGs) : MGs := fun ds e st => match ds with
  | d :: r => (g d e st).bind fun p => gs r p.1 p.2
  | [] => none
def gT (n : Nat) (gs : MGs) : MG := fun d e st => match d with
  | .tup ds => if ds.length = n then gs ds e st else none
  | .ztp ds => if ds.length = n then gs ds e st else none
  | _ => none

section
variable {K : PySem.W.Frag} {EW : EWt} {α β : Type} {R : Ad → Hp → α → β → Prop} {r r' r1 : Ad} {H H' H1 : Hp} {st st' st1 : Store} {σ : L2.St} {e : Env}
theorem PostS.later {D : Ends} {out : SR} (S : Sim K r H st) (S1 : Sim K r1 H1 st1) (x : Ext K r H r1 H1) (P : PostS K EW r H st' D out) : PostS K EW r1 H1 st' D out := by
  cases out with
  | nx a => exact fun r' H' b S' y => P r' H' b S' (x.trans' S S1 y)
  | bk a => exact fun r' H' b S' y => P r' H' b S' (x.trans' S S1 y)
  | ct a => exact fun r' H' b S' y => P r' H' b S' (x.trans' S S1 y)
  | rt a => exact fun r' H' b S' y => P r' H' b S' (x.trans' S S1 y)
  | exc a b => exact fun r' H' b S' y => P r' H' b S' (x.trans' S S1 y)
theorem bndS_step {m : M α} {k : α → Store → Option (SR × Store)} {out : SR} {D : Ends} {Q1 : β → Hp → Prop} (S : Sim K r H st) (hE : RE K r H e σ) (h : bndS (m e st) e k = some (out, st')) (P : PostS K EW r H st' D out)
    (next : ∀ r1 H1 b a st1, Sim K r1 H1 st1 → Ext K r H r1 H1 → RE K r1 H1 e σ → R r1 H1 a b → k a st1 = some (out, st') → PostS K EW r1 H1 st' D out → Q1 b H1) : tX K R EW m σ H Q1 := by
  cases q : m e st with
  | none => rw [q] at h; cases h
  | some p =>
    obtain ⟨o, st1⟩ := p
    rw [q] at h
    cases o with
    | ok a => exact ⟨r, e, st, .ok a, st1, S, hE, q, fun r1 H1 b S1 x hR => next r1 H1 b a st1 S1 x (hE.mono x) hR h (P.later S S1 x)⟩
    | exc x =>
      simp only [bndS, Option.some.injEq, Prod.mk.injEq] at h
      obtain ⟨rfl, rfl⟩ := h
      exact ⟨r, e, st, .exc x, st1, S, hE, q, fun r' H' S' y => P r' H' σ S' y (hE.mono y)⟩
end

/-- the slots off a list are as they were -/
def Off (sl : List Nat) (σ σ' : L2.St) : Prop := σ'.length = σ.length ∧ ∀ i : Nat, i ∉ sl → σ'[i]? = σ[i]?
theorem Off.refl (sl : List Nat) (σ : L2.St) : Off sl σ σ := ⟨rfl, fun _ _ => rfl⟩
theorem Off.trans {sl : List Nat} {a b c : L2.St} (x : Off sl a b) (y : Off sl b c) : Off sl a c := ⟨y.1.trans x.1, fun i h => (y.2 i h).trans (x.2 i h)⟩
theorem Off.sub {sl sl' : List Nat} {a b : L2.St} (x : Off sl a b) (h : ∀ i ∈ sl, i ∈ sl') : Off sl' a b := ⟨x.1, fun i n => x.2 i fun m => n (h i m)⟩
def PostG (K : PySem.W.Frag) (sl : List Nat) (σ : L2.St) (r : Ad) (H : Hp) (Q : L2.St → Hp → Prop) (e' : Env) (st' : Store) : Prop :=
  ∀ r' H' σ', Sim K r' H' st' → Ext K r H r' H' → RE K r' H' e' σ' → Off sl σ σ' → Q σ' H'
def tG (K : PySem.W.Frag) (sl : List Nat) (g : MG) : TG := fun v σ H Q => ∃ r e st d e' st', Sim K r H st ∧ RE K r H e σ ∧ RD K r H d v ∧ g d e st = some (e', st') ∧ PostG K sl σ r H Q e' st'
def tGs (K : PySem.W.Frag) (sl : List Nat) (g : MGs) : TGs := fun vs σ H Q => ∃ r e st ds e' st', Sim K r H st ∧ RE K r H e σ ∧ RDs K r H ds vs ∧ g ds e st = some (e', st') ∧ PostG K sl σ r H Q e' st'
def G (X : Cx) (sl : List Nat) (t : Expr) (g : MG) : Prop := PG X t (tG X.K sl g)
def Gs (X : Cx) (sl : List Nat) (ts : List Expr) (g : MGs) : Prop := PGs X ts (tGs X.K sl g)
theorem PG.weak {X : Cx} {e : Expr} {t t' : TG} (h : PG X e t) (w : ∀ v σ H Q, t' v σ H Q → t v σ H Q) : PG X e t' := ⟨fun pins s σ H v u Q I rv q => h.run pins s σ H v u Q I rv (w v σ H Q q)⟩
theorem PGs.weak {X : Cx} {e : List Expr} {t t' : TGs} (h : PGs X e t) (w : ∀ v σ H Q, t' v σ H Q → t v σ H Q) : PGs X e t' := ⟨fun pins s σ H v u Q I rv q => h.run pins s σ H v u Q I rv (w v σ H Q q)⟩

section
variable {X : Cx} {EW : EWt}
theorem s_nil : Ss X EW [] sNil := by
  refine PSs.weak pss_nil ?_
  rintro D σ H ⟨r, e, st, out, st', S, hE, h, P⟩
  cases h
  exact P r H σ S (Ext.refl _ _ _) hE
theorem s_cons {s : Stmt} {ss : List Stmt} {m n : MS} (h1 : S_ X EW s m) (h2 : Ss X EW ss n) : Ss X EW (s :: ss) (sSeq m n) := by
  refine PSs.weak (pss_cons h1 h2) ?_
  rintro D σ H ⟨r, e, st, out, st', S, hE, h, P⟩
  unfold sSeq at h
  cases q : m e st with
  | none => rw [q] at h; cases h
  | some p =>
    obtain ⟨o, st1⟩ := p
    rw [q] at h
    refine ⟨r, e, st, o, st1, S, hE, q, ?_⟩
    cases o with
    | nx e1 => exact fun r1 H1 σ1 S1 x1 hE1 => ⟨r1, e1, st1, out, st', S1, hE1, h, P.later S S1 x1⟩
    | bk e1 => cases h; exact P
    | ct e1 => cases h; exact P
    | rt d => cases h; exact P
    | exc x e1 => cases h; exact P
theorem s_one {s : Stmt} {m : MS} (h1 : S_ X EW s m) : Ss X EW [s] m := pss_one h1
theorem s_pass {pos} : S_ X EW (.Pass pos) sNil := by
  refine PS.weak ps_pass ?_
  rintro D σ H ⟨r, e, st, out, st', S, hE, h, P⟩
  cases h
  exact P r H σ S (Ext.refl _ _ _) hE
theorem s_break {pos} : S_ X EW (.Break pos) sBreak := by
  refine PS.weak ps_break ?_
  rintro D σ H ⟨r, e, st, out, st', S, hE, h, P⟩
  cases h
  exact P r H σ S (Ext.refl _ _ _) hE
theorem s_cont {pos} : S_ X EW (.Continue pos) sCont := by
  refine PS.weak ps_continue ?_
  rintro D σ H ⟨r, e, st, out, st', S, hE, h, P⟩
  cases h
  exact P r H σ S (Ext.refl _ _ _) hE
theorem s_ex {a : Expr} {pos : Pos} {m : M D} (h : E X EW a m) (hs : swapsWith a none pos.line X.env = pure false := by rfl) : S_ X EW (.Expr a pos) (sEx m) := by
  refine PS.weak (ps_expr h hs) ?_
  rintro D σ H ⟨r, e, st, out, st', S, hE, h, P⟩
  refine bndS_step S hE h P fun r1 H1 x d st1 S1 x1 hE1 hd h1 P1 => ?_
  cases h1
  exact P1 r1 H1 σ S1 (Ext.refl _ _ _) hE1
theorem s_ret {a : Expr} {pos : Pos} {m : M D} (h : E X EW a m) : S_ X EW (.Return (some a) pos) (sRet m) := by
  refine PS.weak (ps_ret h) ?_
  rintro D σ H ⟨r, e, st, out, st', S, hE, h, P⟩
  refine bndS_step S hE h P fun r1 H1 x d st1 S1 x1 hE1 hd h1 P1 => ?_
  cases h1
  exact P1 r1 H1 x S1 (Ext.refl _ _ _) hd
theorem s_retN {pos : Pos} : S_ X EW (.Return none pos) sRetN := by
  refine PS.weak ps_retN ?_
  rintro D σ H ⟨r, e, st, out, st', S, hE, h, P⟩
  cases h
  exact P r H .non S (Ext.refl _ _ _) (by simp only [RD])
theorem s_if {c : Expr} {a b : List Stmt} {pos : Pos} {t : M Bool} {m n : MS} (hc : T X EW c t) (ha : Ss X EW a m) (hb : Ss X EW b n) : S_ X EW (.If c a b pos) (sIf t m n) := by
  refine PS.weak (ps_if hc ha hb) ?_
  rintro D σ H ⟨r, e, st, out, st', S, hE, h, P⟩
  refine bndS_step S hE h P fun r1 H1 x d st1 S1 x1 hE1 hd h1 P1 => ?_
  cases hd
  cases x with
  | true => exact ⟨r1, e, st1, out, st', S1, hE1, h1, P1⟩
  | false => exact ⟨r1, e, st1, out, st', S1, hE1, h1, P1⟩
theorem g_name (i : Nat) {x : Str} {pos : Pos} (hN : X.N.Nodup) (hi : X.N[i]? = some x := by rfl) (hx : Loc X.env.scope x := by first | exact Or.inl rfl | exact Or.inr rfl)
    (hf : X.fn x = true ∨ X.env.scope.names.lookup x = some .local := by first | exact .inl rfl | exact .inr rfl) : G X [i] (.Name x pos) (gN i) := by
  refine PG.weak (pg_name hN hi hx hf) ?_
  rintro v σ H Q ⟨r, e, st, d, e', st', S, hE, hd, h, P⟩
  cases h
  refine P r H _ S (Ext.refl _ _ _) (hE.set hd) ⟨by simp, fun j hj => ?_⟩
  simp only [List.mem_singleton] at hj
  rw [List.getElem?_set_ne (fun z => hj z.symm)]
theorem gs_nil {sl : List Nat} : Gs X sl [] gsN := by
  refine PGs.weak pgs_nil ?_
  rintro v σ H Q ⟨r, e, st, d, e', st', S, hE, hd, h, P⟩
  unfold gsN at h
  split at h
  · cases h
    simp only [RDs] at hd
    exact ⟨hd, P r H σ S (Ext.refl _ _ _) hE (Off.refl _ _)⟩
  · cases h
theorem gs_cons {sl sl1 sl2 : List Nat} {t : Expr} {ts : List Expr} {g : MG} {gs : MGs} (h1 : G X sl1 t g) (h2 : Gs X sl2 ts gs) (hs1 : ∀ i ∈ sl1, i ∈ sl := by decide) (hs2 : ∀ i ∈ sl2, i ∈ sl := by decide)
    (hs : (assignEach (t :: ts) X.env).map (·.2) = assign t X.env :: (assignEach ts X.env).map (·.2) := by rfl) : Gs X sl (t :: ts) (gsC g gs) := by
  refine PGs.weak (pgs_cons h1 h2 hs) ?_
  rintro v σ H Q ⟨r, e, st, ds, e', st', S, hE, hd, h, P⟩
  cases ds with
  | nil => cases h
  | cons d ds =>
    simp only [RDs] at hd
    obtain ⟨w, vs, rfl, hd1, hd2⟩ := hd
    refine ⟨w, vs, rfl, ?_⟩
    replace h : (g d e st).bind (fun p => gs ds p.1 p.2) = some (e', st') := h
    cases q : g d e st with
    | none => rw [q] at h; cases h
    | some p =>
      obtain ⟨e1, st1⟩ := p
      rw [q] at h
      refine ⟨r, e, st, d, _, _, S, hE, hd1, q, fun r1 H1 σ1 S1 x1 hE1 o1 => ?_⟩
      exact ⟨r1, e1, st1, ds, e', st', S1, hE1, hd2.mono x1, h, fun r' H' σ' S' y hE' o => P r' H' σ' S' (x1.trans' S S1 y) hE' ((o1.sub hs1).trans (o.sub hs2))⟩
theorem g_tup {sl : List Nat} {es : List Expr} {k : Nat} {n : Nat} {pos : Pos} {gs : MGs} (hc : X.calm = true) (h : Gs X sl es gs) (hn : (assignEach es X.env).length = n := by rfl) (hst : (assignEach es X.env).findIdx? (·.1) = none := by rfl) : G X sl (.Tuple es k pos) (gT n gs) := by
  refine PG.weak (pg_tup hc h hn hst) ?_
  rintro v σ H Q ⟨r, e, st, d, e', st', S, hE, hd, h, P⟩
  unfold gT at h
  split at h
  · rename_i ds
    split at h
    · rename_i hl
      simp only [RD] at hd
      obtain ⟨a, vs, rfl, s, q⟩ := hd
      exact ⟨a, vs, rfl, s.1, by rw [← q.length]; exact hl, r, e, st, ds, e', st', S, hE, q, h, P⟩
    · cases h
  · rename_i ds
    split at h
    · rename_i hl
      simp only [RD] at hd
      obtain ⟨a, vs, rfl, s, q⟩ := hd
      exact ⟨a, vs, rfl, s.1, by rw [← q.length]; exact hl, r, e, st, ds, e', st', S, hE, q, h, P⟩
    · cases h
  · cases h
theorem s_asg {sl : List Nat} {tg a : Expr} {pos : Pos} {m : M D} {g : MG} (h : E X EW a m) (hg : G X sl tg g) (hs : swapsWithSole [tg] a pos.line X.env = pure false := by rfl) (hw : swappedStores [tg] a X.env = pure none := by rfl)
    (h1 : (assignEach [tg] X.env).map (·.2) = [assign tg X.env] := by rfl) : S_ X EW (.Assign [tg] a pos) (sAsg m g) := by
  refine PS.weak (ps_asg h hg hs hw h1) ?_
  rintro D σ H ⟨r, e, st, out, st', S, hE, h, P⟩
  refine bndS_step S hE h P fun r1 H1 x d st1 S1 x1 hE1 hd h1 P1 => ?_
  cases q : g d e st1 with
  | none => rw [q] at h1; cases h1
  | some p =>
    obtain ⟨e1, st2⟩ := p
    rw [q] at h1
    cases h1
    exact ⟨r1, e, st1, d, _, _, S1, hE1, hd, q, fun r' H' σ' S' y hE' o => P1 r' H' σ' S' y hE'⟩

/-! ### while -/
/-- at most n turns -/
def whN (c : M Bool) (b : MS) : Nat → MS
  | 0, _, _ => none
  | n + 1, e, st => bndS (c e st) e fun k st1 => if k = true then
      match b e st1 with
      | some (.nx e2, st2) => whN c b n e2 st2
      | some (.ct e2, st2) => whN c b n e2 st2
      | some (.bk e2, st2) => some (.nx e2, st2)
      | o => o
    else some (.nx e, st1)
open Classical in
noncomputable def sWhile (c : M Bool) (b : MS) : MS := fun e st => if h : ∃ n, (whN c b n e st).isSome = true then whN c b (choose h) e st else none
theorem s_while {c : Expr} {body : List Stmt} {pos : Pos} {t : M Bool} {m : MS} (hp : PassesOwn (model X.prog X.w) X.A X.env X.xe) (hc : T X EW c t) (hb : Ss X EW body m) : S_ X EW (.While c body [] pos) (sWhile t m) := by
  refine PS.weak (ps_while hp hc hb) ?_
  rintro D σ H ⟨r, e, st, out, st', S, hE, h, P⟩
  obtain ⟨n, hn⟩ : ∃ n, whN t m n e st = some (out, st') := by
    unfold sWhile at h
    split at h
    · exact ⟨_, h⟩
    · cases h
  refine ⟨fun n σ H => ∃ r e st, Sim X.K r H st ∧ RE X.K r H e σ ∧ whN t m n e st = some (out, st') ∧ PostS X.K EW r H st' D out, ⟨n, r, e, st, S, hE, hn, P⟩, ?_⟩
  rintro n σ H ⟨r, e, st, S, hE, h, P⟩
  cases n with
  | zero => cases h
  | succ n =>
    unfold whN at h
    refine bndS_step S hE h P fun r1 H1 x k st1 S1 x1 hE1 hd h1 P1 => ?_
    cases hd
    cases x with
    | false =>
      rw [if_neg Bool.false_ne_true] at h1 ⊢
      cases h1
      exact P1 r1 H1 σ S1 (Ext.refl _ _ _) hE1
    | true =>
      rw [if_pos rfl] at h1 ⊢
      refine ⟨fun σ H => ∃ r e st, Sim X.K r H st ∧ RE X.K r H e σ ∧ whN t m n e st = some (out, st') ∧ PostS X.K EW r H st' D out, fun σ' H' q => ⟨n, Nat.lt_succ_self _, q⟩, ?_⟩
      cases q : m e st1 with
      | none => rw [q] at h1; cases h1
      | some p =>
        obtain ⟨o, st2⟩ := p
        rw [q] at h1
        refine ⟨r1, e, st1, o, st2, S1, hE1, q, ?_⟩
        cases o with
        | nx e2 => exact fun r2 H2 σ2 S2 x2 hE2 => ⟨r2, e2, st2, S2, hE2, h1, P1.later S1 S2 x2⟩
        | ct e2 => exact fun r2 H2 σ2 S2 x2 hE2 => ⟨r2, e2, st2, S2, hE2, h1, P1.later S1 S2 x2⟩
        | bk e2 => cases h1; exact P1
        | rt d => cases h1; exact P1
        | exc x e2 => cases h1; exact P1

/-! ### what is walked -/
/-- the items; the store's list that they are, if it is one -/
structure Itm where
  ds : List D
  src : List (Nat × List D)
def Itm.hold (i : Itm) (st : Store) : Prop := ∀ p ∈ i.src, st[p.1]? = some (.lst p.2) ∨ st[p.1]? = some (.flst p.2)
def ItOk (K : PySem.W.Frag) (r : Ad) (H : Hp) (it : Itm) (J : L2.It) : Prop := ∀ r1 H1 st1, Sim K r1 H1 st1 → Tr K r H r1 H1 → it.hold st1 →
  (∀ i : Nat, it.ds.length ≤ i → J.stop i H1) ∧ ∀ (i : Nat) (d : D), it.ds[i]? = some d → J.go i H1 ∧ ∀ x H2, J.yld i H1 x H2 → Sim K r1 H2 st1 ∧ Ext K r1 H1 r1 H2 ∧ RD K r1 H2 d x
theorem Tr.trans {K : PySem.W.Frag} {r r1 r2 : Ad} {H H1 H2 : Hp} (x : Tr K r H r1 H1) (y : Tr K r1 H1 r2 H2) : Tr K r H r2 H2 :=
  ⟨fun a o e n m => by
    obtain ⟨p, q⟩ := x.obj a o e n m
    rcases p with p | ⟨kvs, od, rfl, p⟩
    · exact y.obj a o p n q
    · obtain ⟨p2, q2⟩ := y.obj a _ p (fun _ z => by cases z) q
      exact ⟨.inr ⟨kvs, od, rfl, p2.frz⟩, q2⟩, fun n a e => y.at_ n a (x.at_ n a e), fun a xs e => y.tup a xs (x.tup a xs e)⟩
theorem ItOk.tr {K : PySem.W.Frag} {r r1 : Ad} {H H1 : Hp} {it : Itm} {J : L2.It} (h : ItOk K r H it J) (x : Tr K r H r1 H1) : ItOk K r1 H1 it J := fun r2 H2 st2 S y hh => h r2 H2 st2 S (x.trans y) hh
def PostI (K : PySem.W.Frag) (EW : EWt) (σ : L2.St) (r : Ad) (H : Hp) (st' : Store) (Q : L2.It → Hp → Prop) : Res Itm → Prop
  | .ok it => ∀ r' H' J, Sim K r' H' st' → Ext K r H r' H' → ItOk K r' H' it J → Q J H'
  | .exc x => ∀ r' H', Sim K r' H' st' → Ext K r H r' H' → EW x σ r' H'
def tI (K : PySem.W.Frag) (EW : EWt) (m : M Itm) : TI := fun σ H Q => ∃ r e st out st', Sim K r H st ∧ RE K r H e σ ∧ m e st = some (out, st') ∧ PostI K EW σ r H st' Q out
def I_ (X : Cx) (EW : EWt) (tg iter : Expr) (m : M Itm) : Prop := PI X tg iter (tI X.K EW m)
theorem PI.weak {X : Cx} {tg e : Expr} {t t' : TI} (h : PI X tg e t) (w : ∀ σ H Q, t' σ H Q → t σ H Q) : PI X tg e t' := ⟨fun pins s σ H Q I q => h.run pins s σ H Q I (w σ H Q q)⟩
theorem PI.or {X : Cx} {tg e : Expr} {t t' : TI} (h : PI X tg e t) (h' : PI X tg e t') : PI X tg e (fun σ H Q => t σ H Q ∨ t' σ H Q) := ⟨fun pins s σ H Q I q => q.elim (h.run pins s σ H Q I) (h'.run pins s σ H Q I)⟩
theorem bnd_stepI {K : PySem.W.Frag} {EW : EWt} {α β : Type} {R : Ad → Hp → α → β → Prop} {r : Ad} {H : Hp} {st st' : Store} {σ : L2.St} {e : Env} {m : M α} {k : α → Store → Option (Res Itm × Store)} {out : Res Itm} {Q : L2.It → Hp → Prop} {Q1 : β → Hp → Prop} (S : Sim K r H st) (hE : RE K r H e σ) (h : bnd (m e st) k = some (out, st')) (P : PostI K EW σ r H st' Q out)
    (next : ∀ r1 H1 b a st1, Sim K r1 H1 st1 → Ext K r H r1 H1 → RE K r1 H1 e σ → R r1 H1 a b → k a st1 = some (out, st') → Q1 b H1) : tX K R EW m σ H Q1 := by
  cases q : m e st with
  | none => rw [q] at h; cases h
  | some p =>
    obtain ⟨o, st1⟩ := p
    rw [q] at h
    cases o with
    | ok a => exact ⟨r, e, st, .ok a, st1, S, hE, q, fun r1 H1 b S1 x hR => next r1 H1 b a st1 S1 x (hE.mono x) hR h⟩
    | exc x =>
      simp only [bnd, Option.some.injEq, Prod.mk.injEq] at h
      obtain ⟨rfl, rfl⟩ := h
      exact ⟨r, e, st, .exc x, st1, S, hE, q, P⟩

/-- over a list or a tuple -/
def itV (d : D) (st : Store) : Option Itm := match d with
  | .tup ds => some ⟨ds, []⟩
  | .lst ds => some ⟨ds, []⟩
  | .ref n => match st[n]? with
    | some (.lst ds) => some ⟨ds, [(n, ds)]⟩
    | some (.flst ds) => some ⟨ds, [(n, ds)]⟩
    | _ => none
  | _ => none
def iSeq (m : M D) : M Itm := xbnd m fun d _ st => match itV d st with
  | some i => some (.ok i, st)
  | none => none
theorem itOk_list {K : PySem.W.Frag} {r : Ad} {H : Hp} {it : Itm} {a : Addr} (h : ∀ r1 H1 st1, Sim K r1 H1 st1 → Tr K r H r1 H1 → it.hold st1 → ∃ vs, SqL K H1 a vs ∧ RDs K r1 H1 it.ds vs) : ItOk K r H it (Itl K a) := by
  intro r1 H1 st1 S t hh
  obtain ⟨vs, s, q⟩ := h r1 H1 st1 S t hh
  refine ⟨fun i hi => ⟨vs, s, by rw [← q.length]; exact hi⟩, fun i d hd => ?_⟩
  obtain ⟨v, h1, h2⟩ := q.get hd
  refine ⟨⟨vs, v, s, h1⟩, fun x H2 hy => ?_⟩
  obtain ⟨rfl, hy⟩ := hy
  have e := hy vs s
  rw [h1] at e
  cases e
  exact ⟨S, Ext.refl _ _ _, h2⟩
theorem itOk_tup {K : PySem.W.Frag} {r : Ad} {H : Hp} {it : Itm} {a : Addr} (h : ∀ r1 H1 st1, Sim K r1 H1 st1 → Tr K r H r1 H1 → it.hold st1 → ∃ vs, SqT K H1 a vs ∧ RDs K r1 H1 it.ds vs) : ItOk K r H it (Itt K a) := by
  intro r1 H1 st1 S t hh
  obtain ⟨vs, s, q⟩ := h r1 H1 st1 S t hh
  refine ⟨fun i hi => ⟨vs, s, by rw [← q.length]; exact hi⟩, fun i d hd => ?_⟩
  obtain ⟨v, h1, h2⟩ := q.get hd
  refine ⟨⟨vs, v, s, h1⟩, fun x H2 hy => ?_⟩
  obtain ⟨rfl, hy⟩ := hy
  have e := hy vs s
  rw [h1] at e
  cases e
  exact ⟨S, Ext.refl _ _ _, h2⟩
/-- a sequence among the values: where it stands, for later too -/
theorem itV_ok {K : PySem.W.Frag} {r : Ad} {H : Hp} {st : Store} {d : D} {v : V} {it : Itm} (S : Sim K r H st) (hd : RD K r H d v) (h : itV d st = some it) :
    ∃ a, v = .ref a ∧ (((∀ ds, d ≠ .tup ds) ∧ ItOk K r H it (Itl K a) ∧ ∃ vs, SqL K H a vs ∧ RDs K r H it.ds vs) ∨ ((∃ ds, d = .tup ds) ∧ ItOk K r H it (Itt K a) ∧ ∃ vs, SqT K H a vs ∧ RDs K r H it.ds vs)) := by
  cases d with
  | tup ds =>
    cases h
    simp only [RD] at hd
    obtain ⟨a, vs, rfl, s, q⟩ := hd
    exact ⟨a, rfl, .inr ⟨⟨ds, rfl⟩, itOk_tup fun r1 H1 st1 S1 t hh => ⟨vs, (t.tup a _ s).1, q.tr t⟩, vs, s.1, q⟩⟩
  | lst ds =>
    cases h
    simp only [RD] at hd
    obtain ⟨a, vs, rfl, s, n, q⟩ := hd
    exact ⟨a, rfl, .inl ⟨(fun _ z => by cases z), itOk_list fun r1 H1 st1 S1 t hh => ⟨vs, .of ((t.obj a _ s (fun _ z => by cases z) n).1.nd fun _ z => by cases z), q.tr t⟩, vs, .of s, q⟩⟩
  | ref n =>
    unfold itV at h
    cases q : st[n]? with
    | none => simp only [q] at h; cases h
    | some o =>
      obtain ⟨a, rfl, h1, h2⟩ := S.at_ hd q
      simp only [q] at h
      refine ⟨a, rfl, .inl ⟨(fun _ z => by cases z), ?_⟩⟩
      have main : ∀ ds : List D, it = ⟨ds, [(n, ds)]⟩ → ItOk K r H it (Itl K a) := fun ds e => by
        subst e
        refine itOk_list fun r1 H1 st1 S1 t hh => ?_
        have hn := t.at_ n a h1
        rcases hh (n, ds) (by simp) with z | z
        · obtain ⟨vs, e1, t1⟩ := S1.ob n a _ hn z; exact ⟨vs, .of e1, t1⟩
        · obtain ⟨o, vs, e1, t1⟩ := S1.ob n a _ hn z; exact ⟨vs, .inl (.inr ⟨o, e1⟩), t1⟩
      cases o with
      | lst ds => cases h; obtain ⟨vs, e1, t⟩ := h2; exact ⟨main ds rfl, vs, .of e1, t⟩
      | flst ds => cases h; obtain ⟨o, vs, e1, t⟩ := h2; exact ⟨main ds rfl, vs, .inl (.inr ⟨o, e1⟩), t⟩
      | dct ks ds => cases h
      | fdct ks ds => cases h
  | _ => cases h
theorem i_seq {tg a : Expr} {m : M D} (h : E X EW a m) : I_ X EW tg a (iSeq m) := by
  refine PI.weak (PI.or (pi_list h) (pi_tup h)) ?_
  rintro σ H Q ⟨r, e, st, out, st', S, hE, h, P⟩
  cases q : m e st with
  | none => simp only [iSeq, xbnd, q, bnd] at h; cases h
  | some p =>
    obtain ⟨o, st1⟩ := p
    cases o with
    | exc x =>
      simp only [iSeq, xbnd, q, bnd] at h
      cases h
      exact .inl ⟨r, e, st, _, _, S, hE, q, P⟩
    | ok d =>
      simp only [iSeq, xbnd, q, bnd] at h
      cases q2 : itV d st1 with
      | none => rw [q2] at h; cases h
      | some it =>
        rw [q2] at h
        cases h
        -- which of both ways
        have isT : (∃ ds, d = .tup ds) ∨ ¬ ∃ ds, d = .tup ds := Classical.em _
        rcases isT with ⟨ds, rfl⟩ | nt
        · refine .inr ⟨r, e, st, _, _, S, hE, q, fun r1 H1 v S1 x1 hd => ?_⟩
          cases q2
          simp only [RD] at hd
          obtain ⟨a, vs, rfl, s, q⟩ := hd
          exact ⟨a, rfl, ⟨vs, s.1⟩, P r1 H1 _ S1 x1 (itOk_tup fun r1 H1 st1 S1 t hh => ⟨vs, (t.tup a _ s).1, q.tr t⟩)⟩
        · refine .inl ⟨r, e, st, _, _, S, hE, q, fun r1 H1 v S1 x1 hd => ?_⟩
          obtain ⟨a, rfl, h⟩ := itV_ok S1 hd q2
          rcases h with ⟨_, h1, vs, h2, h3⟩ | ⟨z, _⟩
          · exact ⟨a, rfl, ⟨vs, h2⟩, P r1 H1 _ S1 x1 h1⟩
          · exact absurd z nt
end
end FW

set_option maxHeartbeats 4000000
namespace FW
open PySem L2

/-! ### for -/
open Classical in
noncomputable def forL (it : Itm) (g : MG) (b : MS) : List D → MS
  | [], e, st => if it.hold st then some (.nx e, st) else none
  | d :: ds, e, st => if it.hold st then
      match g d e st with
      | none => none
      | some (e1, st1) => match b e1 st1 with
        | some (.nx e2, st2) => forL it g b ds e2 st2
        | some (.ct e2, st2) => forL it g b ds e2 st2
        | some (.bk e2, st2) => some (.nx e2, st2)
        | o => o
    else none
noncomputable def sFor (it : M Itm) (g : MG) (b : MS) : MS := fun e st => bndS (it e st) e fun i st1 => forL i g b i.ds e st1
theorem hold_none {ds : List D} {st : Store} : Itm.hold ⟨ds, []⟩ st := fun _ h => by cases h
section
variable {X : Cx} {EW : EWt}
theorem s_for {sl : List Nat} {tg iter : Expr} {body : List Stmt} {pos : Pos} {mi : M Itm} {g : MG} {m : MS} (hp : PassesOwn (model X.prog X.w) X.A X.env X.xe) (hc : X.calm = true) (hi : I_ X EW tg iter mi) (hg : G X sl tg g) (hb : Ss X EW body m)
    (hs : ∀ x, foldedSetIterable iter X.env x = pure x := by intro _; rfl) : S_ X EW (.For tg iter body [] pos) (sFor mi g m) := by
  refine PS.weak (ps_for hp hc hi hg hb hs) ?_
  rintro D σ H ⟨r, e, st, out, st', S, hE, h, P⟩
  cases q : mi e st with
  | none => simp only [sFor, q, bndS] at h; cases h
  | some p =>
    obtain ⟨o, st1⟩ := p
    cases o with
    | exc x =>
      simp only [sFor, q, bndS] at h
      cases h
      exact ⟨r, e, st, _, _, S, hE, q, fun r' H' S' y => P r' H' σ S' y (hE.mono y)⟩
    | ok it =>
      simp only [sFor, q, bndS] at h
      refine ⟨r, e, st, _, _, S, hE, q, fun r1 H1 J S1 x1 ok => ?_⟩
      refine ⟨fun i n σ H => ∃ r e st, Sim X.K r H st ∧ RE X.K r H e σ ∧ ItOk X.K r H it J ∧ n = it.ds.length - i ∧ forL it g m (it.ds.drop i) e st = some (out, st') ∧ PostS X.K EW r H st' D out,
        ⟨it.ds.length, r1, e, st1, S1, hE.mono x1, ok, by simp, by simpa using h, P.later S S1 x1⟩, ?_⟩
      rintro i n σ H ⟨r, e, st, S, hE, ok, rfl, h, P⟩
      by_cases hlt : i < it.ds.length
      · rw [List.drop_eq_getElem_cons hlt] at h
        unfold forL at h
        split at h
        · rename_i hh
          obtain ⟨_, go⟩ := ok r H st S ⟨fun a o e _ n => ⟨.inl e, n⟩, fun _ _ z => z, fun _ _ z => z⟩ hh
          obtain ⟨go, yld⟩ := go i it.ds[i] (by simp [hlt])
          refine .inr ⟨go, fun σ H => ∃ r e st, Sim X.K r H st ∧ RE X.K r H e σ ∧ ItOk X.K r H it J ∧ forL it g m (it.ds.drop (i + 1)) e st = some (out, st') ∧ PostS X.K EW r H st' D out,
            fun σ' H' ⟨r, e, st, S, hE, ok, h, P⟩ => ⟨it.ds.length - (i + 1), by omega, r, e, st, S, hE, ok, rfl, h, P⟩, fun x H2 hy => ?_⟩
          obtain ⟨S2, x2, hd⟩ := yld x H2 hy
          cases q : g it.ds[i] e st with
          | none => rw [q] at h; cases h
          | some p =>
            obtain ⟨e1, st1⟩ := p
            rw [q] at h
            dsimp only at h
            refine ⟨r, e, st, it.ds[i], e1, st1, S2, hE.mono x2, hd, q, fun r3 H3 σ3 S3 x3 hE3 o3 => ?_⟩
            have x23 := x2.trans' S S2 x3
            cases q2 : m e1 st1 with
            | none => rw [q2] at h; cases h
            | some p =>
              obtain ⟨o, st2⟩ := p
              rw [q2] at h
              refine ⟨r3, e1, st1, o, st2, S3, hE3, q2, ?_⟩
              cases o with
              | nx e2 => exact fun r4 H4 σ4 S4 x4 hE4 => ⟨r4, e2, st2, S4, hE4, ok.tr (x23.trans' S S3 x4).tr, h, P.later S S4 (x23.trans' S S3 x4)⟩
              | ct e2 => exact fun r4 H4 σ4 S4 x4 hE4 => ⟨r4, e2, st2, S4, hE4, ok.tr (x23.trans' S S3 x4).tr, h, P.later S S4 (x23.trans' S S3 x4)⟩
              | bk e2 => cases h; exact P.later S S3 x23
              | rt d => cases h; exact P.later S S3 x23
              | exc y e2 => cases h; exact P.later S S3 x23
        · cases h
      · rw [List.drop_eq_nil_of_le (by omega)] at h
        unfold forL at h
        split at h
        · rename_i hh
          cases h
          obtain ⟨stop, _⟩ := ok r H _ S ⟨fun a o e _ n => ⟨.inl e, n⟩, fun _ _ z => z, fun _ _ z => z⟩ hh
          exact .inl ⟨stop i (by omega), P r H σ S (Ext.refl _ _ _) hE⟩
        · cases h
end

/-! ### comprehensions -/
def wipeE (e : Env) : List Nat → Env
  | [] => e
  | v :: vs => (wipeE e vs).set v none
theorem RE.none {K : PySem.W.Frag} {r : Ad} {H : Hp} {e : Env} {σ : L2.St} (h : RE K r H e σ) (i : Nat) : RE K r H (e.set i Option.none) (σ.set i Option.none) := by
  refine ⟨by simp [h.len], fun j d' e' => ?_⟩
  by_cases hj : i = j
  · subst hj
    by_cases hi : i < e.length
    · rw [List.getElem?_set_self hi] at e'; cases e'
    · rw [List.getElem?_eq_none (by simpa using hi)] at e'; cases e'
  · rw [List.getElem?_set_ne hj] at e'
    obtain ⟨w, a, b⟩ := h.at' j d' e'
    exact ⟨w, by rw [List.getElem?_set_ne hj]; exact a, b⟩
theorem RE.wipe {K : PySem.W.Frag} {r : Ad} {H : Hp} {e : Env} {σ : L2.St} (h : RE K r H e σ) : ∀ vs : List Nat, RE K r H (wipeE e vs) (L2.wipe σ vs)
  | [] => h
  | v :: vs => (RE.wipe h vs).none v
theorem wipe_get {σ : L2.St} {i : Nat} : ∀ {vs : List Nat}, i ∈ vs → (L2.wipe σ vs)[i]? = if i < σ.length then some none else none
  | [], h => by simp at h
  | v :: vs, h => by
    unfold L2.wipe
    by_cases e : v = i
    · subst e
      by_cases hl : v < σ.length
      · rw [List.getElem?_set_self (by rw [wipe_length]; exact hl), if_pos hl]
      · rw [List.getElem?_eq_none (by simp [wipe_length]; omega), if_neg hl]
    · rw [List.getElem?_set_ne e]
      exact wipe_get (by rcases List.mem_cons.mp h with z | z; exact absurd z.symm e; exact z)
theorem wipe_off {σ σ' : L2.St} {sl vs : List Nat} (o : Off sl (L2.wipe σ vs) σ') (hs : ∀ i ∈ sl, i ∈ vs) : L2.wipe σ' vs = L2.wipe σ vs := by
  have hl : σ'.length = σ.length := by rw [o.1, wipe_length]
  refine List.ext_getElem? fun i => ?_
  by_cases hi : i ∈ vs
  · rw [wipe_get hi, wipe_get hi, hl]
  · rw [wipe_out hi, o.2 i (fun m => hi (hs i m))]
open Classical in
noncomputable def lcL (it : Itm) (g : MG) (t : M Bool) (el : M D) (e : Env) : List D → List D → Store → Option (Res Ob × Store)
  | [], acc, st => if it.hold st then some (.ok (.lst acc), st) else none
  | d :: ds, acc, st => if it.hold st then
      match g d e st with
      | none => none
      | some (e1, st1) => match t e1 st1 with
        | some (.ok true, st2) => (match el e1 st2 with
          | some (.ok y, st3) => if acc.length < sizeLine then lcL it g t el e ds (acc ++ [y]) st3 else none
          | _ => none)
        | some (.ok false, st2) => lcL it g t el e ds acc st2
        | _ => none
    else none
/-- [el for target in it if t]: vs the block's own slots -/
noncomputable def xLc (vs : List Nat) (it : M Itm) (g : MG) (t : M Bool) (el : M D) : M Ob := fun e st => bnd (it e st) fun i st1 => lcL i g t el (wipeE e vs) i.ds [] st1
def xYes : M Bool := fun _ st => some (.ok true, st)
def Ts (X : Cx) (ifs : List Expr) (m : M Bool) : Prop := PTs X ifs (tT X.K noX m)
theorem ts_nil {X : Cx} : Ts X [] xYes := by
  refine ⟨fun pins s σ H Q I q => pts_nil.run pins s σ H Q I ?_⟩
  obtain ⟨r, e, st, out, st', S, hE, h, P⟩ := q
  cases h
  exact P r H true S (Ext.refl _ _ _) rfl
theorem ts_one {X : Cx} {c : Expr} {m : M Bool} (h : T X noX c m) : Ts X [c] m := pts_one h

section
variable {X : Cx} {EW : EWt}
/-- what holds at a comprehension's turn: from the walked thing's beginning (r0, H0) -/
structure LcI (K : PySem.W.Frag) (r0 : Ad) (H0 : Hp) (p : Addr) (acc : List D) (r : Ad) (H : Hp) (st : Store) : Prop where
  sim : Sim K ⟨r.r, p :: r.x⟩ H st
  ext : Ext K r0 H0 r H
  lst : ∃ vs, H p = some (.lst vs) ∧ RDs K ⟨r.r, p :: r.x⟩ H acc vs
theorem LcI.begin {K : PySem.W.Frag} {r0 : Ad} {H0 : Hp} {p : Addr} {st : Store} (S : Sim K r0 H0 st) (hp : H0 p = none) : LcI K r0 H0 p [] r0 (upd H0 p (.lst [])) st :=
  ⟨(S.hide hp).1, (S.side hp).2, [], upd_same, RDs.nil⟩
/-- behind a step within the block -/
theorem LcI.step {K : PySem.W.Frag} {r0 r r1 : Ad} {H0 H H1 : Hp} {p : Addr} {acc : List D} {st0 st st1 : Store} (S0 : Sim K r0 H0 st0) (L : LcI K r0 H0 p acc r H st) (S1 : Sim K r1 H1 st1) (x : Ext K ⟨r.r, p :: r.x⟩ H r1 H1) : LcI K r0 H0 p acc ⟨r1.r, r.x⟩ H1 st1 ∧ r1 = ⟨r1.r, p :: r.x⟩ := by
  have e1 : r1 = ⟨r1.r, p :: r.x⟩ := by cases r1; simp only [Ad.mk.injEq, true_and]; exact x.x
  obtain ⟨vs, h1, h2⟩ := L.lst
  have np : p ∉ r.r := (L.sim.xs p List.mem_cons_self).2
  refine ⟨⟨e1 ▸ S1, ?_, vs, (x.keep p _ h1 np).xs List.mem_cons_self, by have := h2.mono x; rw [e1] at this; exact this⟩, e1⟩
  obtain ⟨l, el, hl⟩ := L.ext.pre
  obtain ⟨l2, el2, hl2⟩ := x.pre
  have thr : ∀ a, H0 a ≠ none → H a ≠ none := fun a h => by
    by_cases m : a ∈ r0.r
    · exact L.sim.there (show a ∈ r.r by rw [el]; exact List.mem_append_left _ m)
    · cases q : H0 a with
      | none => exact absurd q h
      | some o => exact (L.ext.keep a o q m).ne
  refine ⟨L.ext.x, ⟨l ++ l2, by rw [el2, el, List.append_assoc], fun a m => ?_⟩, fun a o h n => ?_, fun a xs h => x.tup a xs (L.ext.tup a xs h)⟩
  · rcases List.mem_append.mp m with m | m
    · exact hl a m
    · cases q : H0 a with
      | none => rfl
      | some o => exact absurd (hl2 a m) (thr a (by rw [q]; simp))
  · refine (L.ext.keep a o h n).trans L.ext.x fun u hu => x.keep a u hu ?_ |>.imp id fun h => ⟨fun m => h.1 (List.mem_cons_of_mem _ m), h.2⟩
    show a ∉ r.r
    rw [el]
    intro m
    rcases List.mem_append.mp m with m | m
    · exact n m
    · rw [hl a m] at h; cases h
theorem LcI.add {K : PySem.W.Frag} {r0 r : Ad} {H0 H : Hp} {p : Addr} {acc : List D} {d : D} {v : V} {vs : List V} {st : Store} (L : LcI K r0 H0 p acc r H st) (hp : H0 p = none) (e : H p = some (.lst vs)) (q : RDs K ⟨r.r, p :: r.x⟩ H acc vs) (h : RD K ⟨r.r, p :: r.x⟩ H d v) :
    LcI K r0 H0 p (acc ++ [d]) r (upd H p (.lst (vs ++ [v]))) st := by
  obtain ⟨S2, t2⟩ := L.sim.grow (o := .lst (vs ++ [v])) List.mem_cons_self e (fun xs z => by rcases z with z | ⟨o, z⟩ <;> (rw [e] at z; cases z))
  refine ⟨S2, ⟨L.ext.x, L.ext.pre, fun a o h n => ?_, fun a xs h => t2.tup a xs (L.ext.tup a xs h)⟩, _, upd_same, (q.tr t2).append (RDs.cons (h.tr t2) RDs.nil)⟩
  rw [upd_ne (ne_of_none h hp)]
  exact L.ext.keep a o h n
theorem lc_weak {sl vs : List Nat} {mi : M Itm} {g : MG} {t : M Bool} {el : M D} {σ : L2.St} {H : Hp} {Q : VK} (hsl : ∀ i ∈ sl, i ∈ vs) (h : tF X.K EW (xLc vs mi g t el) σ H Q) : tLc (tI X.K EW mi) (tG X.K sl g) (tT X.K noX t) (tE X.K noX el) vs σ H Q := by
  obtain ⟨r, e, st, out, st', S, hE, h, P⟩ := h
  cases q : mi e st with
  | none => simp only [xLc, q, bnd] at h; cases h
  | some p =>
    obtain ⟨o, st1⟩ := p
    cases o with
    | exc x =>
      simp only [xLc, q, bnd] at h
      cases h
      exact ⟨r, e, st, _, _, S, hE, q, P⟩
    | ok it =>
      simp only [xLc, q, bnd] at h
      refine ⟨r, e, st, _, _, S, hE, q, fun r1 H1 J S1 x1 iok p hp => ?_⟩
      have hE1 := hE.mono x1
      refine ⟨fun i n H => ∃ r st acc, LcI X.K r1 H1 p acc r H st ∧ n = it.ds.length - i ∧ lcL it g t el (wipeE e vs) (it.ds.drop i) acc st = some (out, st'),
        ⟨it.ds.length, r1, st1, [], .begin S1 hp, by simp, by simpa using h⟩, ?_⟩
      rintro i n H ⟨r2, st2, acc, L, rfl, h⟩
      have hEw : RE X.K ⟨r2.r, p :: r2.x⟩ H (wipeE e vs) (L2.wipe σ vs) := by
        have t1 : Tr X.K r1 H1 ⟨r2.r, p :: r2.x⟩ H := ⟨fun a o e nt n => ⟨(L.ext.keep a o e n.1).kf, (L.ext.out e n).1, fun m => by
          rcases List.mem_cons.mp m with m | m
          · subst m; rw [hp] at e; cases e
          · exact (L.ext.out e n).2 m⟩, fun n a z => L.ext.at_ z, L.ext.tup⟩
        exact (hE1.tr t1).wipe _
      have iokL : ItOk X.K ⟨r2.r, p :: r2.x⟩ H it J := iok.tr ⟨fun a o e nt n => ⟨(L.ext.keep a o e n.1).kf, (L.ext.out e n).1, fun m => by
          rcases List.mem_cons.mp m with m | m
          · subst m; rw [hp] at e; cases e
          · exact (L.ext.out e n).2 m⟩, fun n a z => L.ext.at_ z, L.ext.tup⟩
      by_cases hlt : i < it.ds.length
      · rw [List.drop_eq_getElem_cons hlt] at h
        unfold lcL at h
        split at h
        · rename_i hh
          obtain ⟨_, go⟩ := iokL _ H st2 L.sim ⟨fun a o e _ n => ⟨.inl e, n⟩, fun _ _ z => z, fun _ _ z => z⟩ hh
          obtain ⟨go, yld⟩ := go i it.ds[i] (by simp [hlt])
          refine .inr ⟨go, fun H => ∃ r st acc, LcI X.K r1 H1 p acc r H st ∧ lcL it g t el (wipeE e vs) (it.ds.drop (i + 1)) acc st = some (out, st'),
            fun H' ⟨r, st, acc, L, h⟩ => ⟨it.ds.length - (i + 1), by omega, r, st, acc, L, rfl, h⟩, fun x H3 hy => ?_⟩
          obtain ⟨S3, x3, hd⟩ := yld x H3 hy
          obtain ⟨L3, _⟩ := L.step S1 S3 x3
          cases q : g it.ds[i] (wipeE e vs) st2 with
          | none => rw [q] at h; cases h
          | some pp =>
            obtain ⟨e1, st3⟩ := pp
            rw [q] at h
            dsimp only at h
            refine ⟨_, _, st2, it.ds[i], e1, st3, S3, hEw.mono x3, hd, q, fun r4 H4 σ4 S4 x4 hE4 o4 => ?_⟩
            refine ⟨wipe_off o4 hsl, ?_⟩
            obtain ⟨L4, er4⟩ := L3.step S1 S4 x4
            cases q2 : t e1 st3 with
            | none => rw [q2] at h; cases h
            | some pp =>
              obtain ⟨o, st4⟩ := pp
              rw [q2] at h
              cases o with
              | exc y => cases h
              | ok b =>
                refine ⟨r4, e1, st3, .ok b, st4, S4, hE4, q2, fun r5 H5 b' S5 x5 hb => ?_⟩
                cases hb
                rw [er4] at x5
                obtain ⟨L5, er5⟩ := L4.step S1 S5 x5
                cases b with
                | false =>
                  rw [if_neg Bool.false_ne_true]
                  exact ⟨_, st4, acc, L5, h⟩
                | true =>
                  rw [if_pos rfl]
                  dsimp only at h
                  cases q3 : el e1 st4 with
                  | none => rw [q3] at h; cases h
                  | some pp =>
                    obtain ⟨o, st5⟩ := pp
                    rw [q3] at h
                    cases o with
                    | exc y => cases h
                    | ok y =>
                      dsimp only at h
                      split at h
                      · rename_i hz
                        refine ⟨r5, e1, st4, .ok y, st5, S5, (hE4.mono (by rw [er4]; exact x5)), q3, fun r6 H6 v S6 x6 hv => ?_⟩
                        rw [er5] at x6
                        obtain ⟨L6, er6⟩ := L5.step S1 S6 x6
                        obtain ⟨ws, e6, q6⟩ := L6.lst
                        refine ⟨ws, e6, by rw [← q6.length]; exact hz, ?_⟩
                        exact ⟨_, st5, acc ++ [y], L6.add hp e6 q6 (by rw [er6] at hv; exact hv), h⟩
                      · cases h
        · cases h
      · rw [List.drop_eq_nil_of_le (by omega)] at h
        unfold lcL at h
        split at h
        · rename_i hh
          cases h
          obtain ⟨stop, _⟩ := iokL _ H st' L.sim ⟨fun a o e _ n => ⟨.inl e, n⟩, fun _ _ z => z, fun _ _ z => z⟩ hh
          refine .inl ⟨stop i (by omega), ?_⟩
          obtain ⟨ws, e2, q2⟩ := L.lst
          refine P r2 H p L.sim (x1.trans' S S1 L.ext) ?_ ⟨ws, e2, q2⟩ (fresh_back S S1 x1 hp)
          have : r2.x = r1.x := L.ext.x
          rw [this]
          exact (S1.notin hp).2
        · cases h
theorem f_lc {sl : List Nat} {own : List (Str × Nat)} {elt tg iter : Expr} {ifs : List Expr} {scope : Scope} {pos : Pos} {mi : M Itm} {g : MG} {t : M Bool} {el : M D} (hc : X.calm = true) (hN : X.N.Nodup) (hi : I_ X EW tg iter mi) (ok : blkC X.N X.env.scope scope own = true)
    (hg : ∀ (s : Shared) (H : Hp) (C : Addr) (cl : List (Str × Addr)) (fp : List Addr), G (X.blk s H scope (compEnvC scope cl C X.env) fp) sl tg g)
    (ht : ∀ (s : Shared) (H : Hp) (C : Addr) (cl : List (Str × Addr)) (fp : List Addr), Ts (X.blk s H scope (compEnvC scope cl C X.env) fp) ifs t)
    (he : ∀ (s : Shared) (H : Hp) (C : Addr) (cl : List (Str × Addr)) (fp : List Addr), E (X.blk s H scope (compEnvC scope cl C X.env) fp) noX elt el)
    (hsl : ∀ i ∈ sl, i ∈ own.map (·.2) := by decide) (hs : ∀ x, foldedSetIterable iter X.env x = pure x := by intro _; rfl) :
    EF X EW (.ListComp elt [⟨tg, iter, ifs, 0⟩] scope pos) (xLc (own.map (·.2)) mi g t el) := by
  exact PE.weak (pe_lc (g := tG X.K sl g) (tt := tT X.K noX t) (te := tE X.K noX el) hc hN hi (blkOk_by ok) hg ht he hs) fun σ H Q h => lc_weak hsl h
/-- y = [..] on a row of its own -/
theorem set_lc {sl : List Nat} {own : List (Str × Nat)} {i : Nat} {y : Str} {py : Pos} {elt tg iter : Expr} {ifs : List Expr} {scope : Scope} {pos spos : Pos} {mi : M Itm} {g : MG} {t : M Bool} {el : M D} {m' : M D} (hc : X.calm = true) (hN : X.N.Nodup) (hi : I_ X EW tg iter mi) (ok : blkC X.N X.env.scope scope own = true)
    (hg : ∀ (s : Shared) (H : Hp) (C : Addr) (cl : List (Str × Addr)) (fp : List Addr), G (X.blk s H scope (compEnvC scope cl C X.env) fp) sl tg g)
    (ht : ∀ (s : Shared) (H : Hp) (C : Addr) (cl : List (Str × Addr)) (fp : List Addr), Ts (X.blk s H scope (compEnvC scope cl C X.env) fp) ifs t)
    (he : ∀ (s : Shared) (H : Hp) (C : Addr) (cl : List (Str × Addr)) (fp : List Addr), E (X.blk s H scope (compEnvC scope cl C X.env) fp) noX elt el)
    (hm : m' = xVal (xLc (own.map (·.2)) mi g t el) ∨ m' = xNew (xLc (own.map (·.2)) mi g t el)) (hy : X.N[i]? = some y) (hyl : X.env.scope.names.lookup y = some .local) (hsw : swapsWith (.ListComp elt [⟨tg, iter, ifs, 0⟩] scope pos) (some (.Name y py)) spos.line X.env = pure true)
    (hsl : ∀ i ∈ sl, i ∈ own.map (·.2) := by decide) (hs : ∀ x, foldedSetIterable iter X.env x = pure x := by intro _; rfl) :
    S_ X EW (.Assign [.Name y py] (.ListComp elt [⟨tg, iter, ifs, 0⟩] scope pos) spos) (sAsg m' (gN i)) := by
  refine PS.weak (ps_setLc (g := tG X.K sl g) (tt := tT X.K noX t) (te := tE X.K noX el) hc hN hy hyl hsw hi (blkOk_by ok) hg ht he hs) ?_
  rintro D σ H h
  have h2 : tE X.K EW m' σ H (fun x H1 => D.nx (σ.set i (some x)) H1) := by
    obtain ⟨r, e, st, out, st', S, hE, h, P⟩ := h
    refine bndS_step S hE h P fun r1 H1 x d st1 S1 x1 hE1 hd h1 P1 => ?_
    cases h1
    exact P1 r1 H1 _ S1 (Ext.refl _ _ _) (hE1.set hd)
  refine lc_weak hsl ?_
  rcases hm with rfl | rfl
  · exact val_weak h2
  · exact new_weak h2
end
end FW

set_option maxHeartbeats 4000000
/-! Defs that run where no repr is under way: the same promises as the layer's own, over arounds whose guards are known to be none -/
namespace FW
open PySem PySem.Spec L2
open PyProof.Rows (envOfC)

structure FnG (P : Program) (w : World) (K : PySem.W.Frag) (mg : Str → Option Value) (base : Heap) (CX : CXT) (k : Nat) (f : Addr) (fd : FuncData) (ps : List Str) (sp : Sp) : Prop where
  len : ∀ vs H Q E, sp vs H Q E → vs.length = ps.length
  go : ∀ (A : Around) (outer : List PySem.Env) (s : Shared) (H : Hp) (args : Args) (us : List Value) (vs : List V) (Q : VK) (E : XK),
    Room k A → A.guards = some [] → Env0 P w K mg base A outer s H → BindsTo s fd args (ps.zip us) → Vals vs us → sp vs H Q E → codeAny (model P w) A (.call (.ref f) args) (CR CX outer P w H s Q E) s
section
variable {P : Program} {w : World} {K : PySem.W.Frag} {mg : Str → Option Value} {base : Heap} {CX : CXT} {f : Addr} {fd : FuncData} {ps : List Str}
theorem FnG.imp {k : Nat} {sp sp' : Sp} (F : FnG P w K mg base CX k f fd ps sp) (h : ∀ vs H Q E, sp' vs H Q E → sp vs H Q E) : FnG P w K mg base CX k f fd ps sp' :=
  ⟨fun vs H Q E q => F.len vs H Q E (h vs H Q E q), fun A outer s H args us vs Q E hr hg he hb hv q => F.go A outer s H args us vs Q E hr hg he hb hv (h vs H Q E q)⟩
/-- a def by its body -/
theorem FnG.of {x qual : Str} {st : Stmt} {N : List Str} {k : Nat} {sp : Sp} (F : Fun K x qual st f fd) (S : FnScope N ps (defScope st)) (len : ∀ vs H Q E, sp vs H Q E → vs.length = ps.length)
    (hbody : ∀ (cdv : Value) (A : Around) (outer : List PySem.Env) (s : Shared) (H : Hp) (vs : List V) (Q : VK) (E : XK), Room k (A.deeper (envOfC qual (defScope st) s.heap.objs.size f cdv)) → A.guards = some [] → sp vs H Q E →
      ∃ t, PSs (cxOf CX P w K mg base N qual (defScope st) f cdv A outer s H E) (defBody st) t ∧ t { nx := fun _ H' => Q .non H', rt := Q } (L2.start N vs) H) : FnG P w K mg base CX (k + 1) f fd ps sp := by
  obtain ⟨oc, od, kV, doc, pm, an, cdv, ct, osl, rfl, lk, hcd⟩ := F.ex
  refine ⟨len, ?_⟩
  intro A outer s H args us vs Q E hr hgu e0 hb rv hsp
  have lim : s.heap.NoLimit := e0.mod.nolimit.keeps (fun b o e => (e0.bs b o e).1)
  have KX : K.In s.heap := e0.mod.kin.keeps (fun b o e => (e0.bs b o e).1)
  have names : ∀ y ∈ ps.zip us, (defScope st).names.lookup y.1 = some .local ∨
      ((defScope st).names.lookup y.1 = some .cell ∧ ((cellsFrom (s.heap.objs.size + 1) (defScope st).names []).lookup y.1).isSome = true) := by
    rintro ⟨n, v⟩ hy
    cases S.par n (List.of_mem_zip hy).1 with
    | inl q => exact .inl q
    | inr q => exact .inr ⟨q, PySem.W.cellsFrom_some _ _ _ (.inl q)⟩
  refine codeAny_call_function hr.depth (KX _ _ lk) rfl S.co S.gen rfl (PySem.W.codeRec_of KX hcd) (hb _ _ _ _ ?_)
  refine wpAny_newFunctionEnv_cells S.kind names (fun env he s1 x => ?_)
  subst he
  refine ⟨lim.keeps x.toInCall.keep, codeAny_func ?_⟩
  obtain ⟨t, ht, hq⟩ := hbody cdv A outer s H vs Q E (hr.deeper _) hgu hsp
  have I := inv_start (CX := CX) (E := E) S hr.hd e0 (len vs H Q E hsp) rv x
  refine wpAny_mono (ht.run [] s1 (L2.start N vs) H _ I hq) ?_ (fun e s' z => z)
  intro fl s' hs
  have done : ∀ {σ' : L2.St} {H' : Hp} {v : V} {u : Value}, Inv (cxOf CX P w K mg base N qual (defScope st) f cdv A outer s H E) [] σ' H' s' → RelV v u → Q v H' → CE outer P w H s Q u s' :=
    fun J r1 q => ⟨_, _, J.os, J.bare, J.base, J.hok, r1, q⟩
  cases fl with
  | next =>
    obtain ⟨σ', H', J, q⟩ := hs
    exact done (v := V.non) (u := Value.none) J rfl q
  | ret u =>
    obtain ⟨v, σ', H', J, r1, q⟩ := hs
    exact done J r1 q
  | brk => obtain ⟨_, _, _, q⟩ := hs; exact q.elim
  | cont => obtain ⟨_, _, _, q⟩ := hs; exact q.elim
end

/-- the callee runs -/
theorem runG {X : Cx} {CX : CXT} {k : Nat} {f : Addr} {fd : FuncData} {ps : List Str} {sp : Sp} {E : L2.St → XK} {pins : List (Addr × Obj)} {σ : L2.St} {H : Hp} {s : Shared} {Q : VK} {us : List Value} {vs : List V}
    (F : FnG X.prog X.w X.K X.mg X.base CX k f fd ps sp) (hr : Room k X.A) (hgu : X.A.guards = some []) (hb : Binds X.K fd ps []) (hx : ∀ (pins : List (Addr × Obj)) (σ : L2.St) (H : Hp) (s : Shared) (e : Value) (s' : Shared), Inv X pins σ H s → CX X.stack H s (E σ) e s' → X.xe e s')
    (I : Inv X pins σ H s) (rv : Vals vs us) (h : sp vs H Q (E σ)) : wpAny (model X.prog X.w) X.A (call (.ref f) us) (EP X pins σ Q) X.xe s := by
  have hl : us.length = ps.length := by rw [← rv.length]; exact F.len vs H Q _ h
  have b := hb s us I.kIn (by rw [List.append_nil]; exact hl)
  rw [List.append_nil] at b
  refine wpAny_call (codeAny_mono (F.go X.A X.stack s H ⟨us, []⟩ us vs Q (E σ) hr hgu I.env0 b rv h) ?_)
  intro res s' hq
  cases res with
  | error e => exact hx pins σ H s e s' I hq
  | ok fl =>
    cases fl with
    | ret u => exact I.after hq
    | next => exact hq.elim
    | brk => exact hq.elim
    | cont => exact hq.elim
theorem pe_callG {X : Cx} {CX : CXT} {k : Nat} {f : Addr} {fd : FuncData} {ps : List Str} {sp : Sp} {E : L2.St → XK} {x : Str} {p pos : Pos} {e : Expr} {es : List Expr} {t : TA}
    (F : FnG X.prog X.w X.K X.mg X.base CX k f fd ps sp) (hr : Room k X.A) (hgu : X.A.guards = some []) (hg : Gl X x) (hm : X.mg x = some (.ref f)) (hk : PySem.W.keepIn X.K (.ref f) = true) (hb : Binds X.K fd ps [])
    (hx : ∀ (pins : List (Addr × Obj)) (σ : L2.St) (H : Hp) (s : Shared) (e : Value) (s' : Shared), Inv X pins σ H s → CX X.stack H s (E σ) e s' → X.xe e s') (ha : PA X (e :: es) t)
    (hdb : (x == ("__debug__" : Str)) = false := by decide) (he : starEach (e :: es) X.env = (false, eval e X.env) :: starEach es X.env := by rfl) (hpl : (backTo pos (starEach es X.env)).any (·.1) = false := by rfl) :
    PE X (.Call (.Name x p) (e :: es) [] pos) (fun σ H Q => t σ H fun vs H1 => sp vs H1 Q (E σ)) := by
  constructor
  intro pins s σ H Q I h
  refine wpAny_Call_Name_kw (ld_glob I hg hm ?_ hdb)
  refine PySem.W.callWith_K (h₀ := X.base) I.ok.mod.kin hk (thn (ha.run pos pins s σ H _ I h) ?_) he hpl
  rintro us s1 ⟨vs, H1, I1, rv, q⟩
  exact ⟨I1.kIn, runG F hr hgu hb hx I1 rv q⟩
theorem pe_callG0 {X : Cx} {CX : CXT} {k : Nat} {f : Addr} {fd : FuncData} {ps : List Str} {sp : Sp} {E : L2.St → XK} {x : Str} {p pos : Pos}
    (F : FnG X.prog X.w X.K X.mg X.base CX k f fd ps sp) (hr : Room k X.A) (hgu : X.A.guards = some []) (hg : Gl X x) (hm : X.mg x = some (.ref f)) (hk : PySem.W.keepIn X.K (.ref f) = true) (hb : Binds X.K fd ps [])
    (hx : ∀ (pins : List (Addr × Obj)) (σ : L2.St) (H : Hp) (s : Shared) (e : Value) (s' : Shared), Inv X pins σ H s → CX X.stack H s (E σ) e s' → X.xe e s') (hdb : (x == ("__debug__" : Str)) = false := by decide) :
    PE X (.Call (.Name x p) [] [] pos) (fun σ H Q => sp [] H Q (E σ)) := by
  constructor
  intro pins s σ H Q I h
  refine wpAny_Call_Name_kw (ld_glob I hg hm ?_ hdb)
  exact PySem.W.callWith_K0 I.kIn hk (runG (us := []) F hr hgu hb hx I .nil h)

/-- the law's call, over the heap behind the top -/
theorem law_callG {P : Program} {w : World} {K : PySem.W.Frag} {mg mb : Str → Option Value} {k : Nat} {fa a : Addr} {fd : FuncData} {x : Str} {sp : Sp} {s₁ : Shared} {vs : List Value} {ns : List Int}
    (KX : K.In s₁.heap) (hns : s₁.heap.Ns mainGlobals mg) (hb : s₁.heap.Ns builtinsNs mb) (hbb : ∀ x : Str, x ≠ "__name__" → mb x = bootBuiltins x) (hlim : s₁.heap.NoLimit) (hg : s₁.gens = #[])
    (ha : s₁.heap.get? a = some { cls := .type "list", data := .seq vs.toArray }) (hi : PyProof.Rows.IntsAre vs ns) (hl : ns.length ≤ sizeLine) (hr : Room k PySem.callerA)
    (F : ∀ base : Heap, K.In base → base.Ns mainGlobals mg → FnG P w K mg base CX0 k fa fd [x] sp) (hbind : ∀ (s : Shared) (u : Value), BindsTo s fd ⟨[u], []⟩ [(x, u)])
    (hsp : ∀ H : Hp, Only H → SqL K H a (ns.map V.int) → sp [.ref a] H (fun v _ => v = .bl true) fun _ _ _ => False) :
    codeAny (model P w) PySem.callerA (.call (.ref fa) ⟨[.ref a], []⟩) (fun res s' => res = .ok (.ret (.bool true)) ∧ OldK s₁.heap s'.heap ∧ s'.os = s₁.os ∧ PyProof.Rows.AllBare s'.gens) s₁ := by
  have rv := vals_ints hi
  have lenV := hi.length
  have main : ∀ H : Hp, Only H → SqL K H a (ns.map V.int) → HOk P w H s₁.heap → (∀ b, H b ≠ none → b = a ∧ K.lookup a = none) →
      codeAny (model P w) PySem.callerA (.call (.ref fa) ⟨[.ref a], []⟩) (fun res s' => res = .ok (.ret (.bool true)) ∧ OldK s₁.heap s'.heap ∧ s'.os = s₁.os ∧ PyProof.Rows.AllBare s'.gens) s₁ := by
    intro H hO hS hok hA
    have other : ∀ {b : Addr} {o : Obj}, s₁.heap.get? b = some o → (∀ es ep, o.data = .dict es ep → H b = none) := by
      intro b o e es ep d
      cases q : H b with
      | none => rfl
      | some u =>
        obtain ⟨rfl, _⟩ := hA b (by rw [q]; simp)
        rw [ha] at e
        cases e
        cases (show Data.seq vs.toArray 0 = Data.dict es ep from d)
    have ns' : ∀ {b : Addr} {m : Str → Option Value}, s₁.heap.Ns b m → (hidT s₁.heap H).Ns b m := by
      rintro b m ⟨o, es, ep, e, d, r⟩
      exact ⟨o, es, ep, hidT_get e (other e es ep d), d, r⟩
    have hKb : K.In (hidT s₁.heap H) := by
      intro b o e
      refine hidT_get (KX b o e) ?_
      cases q : H b with
      | none => rfl
      | some u =>
        obtain ⟨rfl, z⟩ := hA b (by rw [q]; simp)
        rw [z] at e
        cases e
    have hM : Mod K mg (hidT s₁.heap H) := by
      obtain ⟨mc, h1, h2⟩ := hlim
      exact ⟨hKb, ns' hns, ⟨mb, ns' hb, hbb⟩, ⟨mc, ns' h1, h2⟩⟩
    have e0 : Env0 P w K mg (hidT s₁.heap H) PySem.callerA [] s₁ H := by
      refine ⟨rfl, hM, fun b o e => of_hidT e, Nat.le_of_eq (hidT_size _ _), trivial, fun b hb => ?_, hok, .of_eq hg⟩
      exact absurd (show b ∈ ([] : List Addr) from hb) (by simp)
    have fin := (F _ hKb (ns' hns)).go PySem.callerA [] s₁ H ⟨[.ref a], []⟩ [.ref a] [.ref a] _ _ hr rfl e0 (hbind s₁ (.ref a)) (.cons rfl .nil) (hsp H hO hS)
    refine codeAny_mono fin ?_
    intro res s' h
    cases res with
    | error e => exact h.elim
    | ok fl =>
      cases fl with
      | next => exact h.elim
      | brk => exact h.elim
      | cont => exact h.elim
      | ret u =>
        obtain ⟨v, H', os, bare, un, hok', r', q⟩ := h
        cases (show v = .bl true from q)
        obtain rfl : u = Value.bool true := r'
        refine ⟨rfl, OldK.of_keep (fun b o e => ?_), os, bare⟩
        cases qb : H b with
        | none => exact un.keep b o e qb (fun z => absurd (show b ∈ ([] : List Addr) from z) (by simp)) (by simp)
        | some u =>
          cases hO b with
          | inl z => rw [qb] at z; cases z
          | inr z =>
            obtain ⟨ob, xs, z⟩ := z
            obtain ⟨e1, _⟩ := hok b _ z
            obtain ⟨e2, _⟩ := hok' b _ (un.frzs b ob _ z)
            rw [e] at e1
            cases e1
            exact e2
  cases hk : K.lookup a with
  | some o =>
    have e := KX a o hk
    rw [ha] at e
    cases e
    refine main (fun _ => none) (fun _ => .inl rfl) (.inr ⟨_, vs.toArray, _, hk, rfl, rfl, rfl, ?_, by simpa using rv⟩) (fun b u z => ?_) (fun b z => absurd rfl z)
    · rw [List.size_toArray, lenV]; exact hl
    · cases (show (none : Option HO) = some u from z)
  | none =>
    refine main (fun b => if b = a then some (.frz { cls := .type "list", data := .seq vs.toArray } (.lst (ns.map V.int))) else none) (fun b => ?_) ?_ (fun b u z => ?_) (fun b z => ⟨?_, hk⟩)
    · by_cases hb : b = a
      · exact .inr ⟨_, _, if_pos hb⟩
      · exact .inl (if_neg hb)
    · exact .inl (.inr ⟨{ cls := .type "list", data := .seq vs.toArray }, if_pos rfl⟩)
    · by_cases hb : b = a
      · cases (if_pos hb).symm.trans z
        subst hb
        exact ⟨ha, by rw [List.length_map]; exact hl, vs, _, rv, ha⟩
      · cases (if_neg hb).symm.trans z
    · by_cases hb : b = a
      · exact hb
      · exact absurd (if_neg hb) z
theorem walkG {l : PySem.W.OpenLaw} {n k : Nat} {q : Program} {loose : List Str} {XP : (Str → Option Value) → Heap → Prop} {YP : World → Heap → Prop} {d : DefRec} {x : Str} (hn : l.most = some n) (hn2 : n ≤ sizeLine) (hdf : d.params.defaults = []) (hr : Room k PySem.callerA)
    (F : ∀ (w : World) (mg : Str → Option Value) (fa : Addr) (h : Heap), YP w h → h.Ns mainGlobals mg → mg d.name = some (.ref fa) → ∃ (K : PySem.W.Frag) (fd : FuncData) (sp : Sp), K.In h ∧ (∀ (s : Shared) (u : Value), BindsTo s fd ⟨[u], []⟩ [(x, u)]) ∧
      (∀ (H : Hp) (a : Addr) (ns : List Int), ns.length ≤ n → Only H → SqL K H a (ns.map V.int) → sp [.ref a] H (fun v _ => v = .bl true) fun _ _ _ => False) ∧
      ∀ base : Heap, K.In base → base.Ns mainGlobals mg → FnG l.prog w K mg base CX0 k fa fd [x] sp) : PySem.W.WalkO q loose XP YP l.row.toRowW d [] (fun f vs => PySem.call f vs) := by
  refine Att.attach_call hn hdf ?_
  intro w s₀ s₁ mg mb fa o pm cd doc a vs ns G Y ho hd hcd hmg hobj hints hlen hg
  obtain ⟨K, fd, sp, KX, hb, hsp, hF⟩ := F w mg fa _ Y G.T.g hmg
  exact law_callG KX G.T.g G.T.b G.T.builtins G.T.nolimit hg hobj hints (Nat.le_trans hlen hn2) hr hF hb (fun H hO hS => hsp H a ns hlen hO hS)
end FW

set_option maxHeartbeats 4000000
namespace FW
open PySem L2
open PyProof.Rows (envOfC)

/-! ### defs -/
/-- what a def is worth that raises nothing -/
def spF (K : PySem.W.Frag) (n : Nat) (F : Fn0) : Sp := fun vs H Q _ => ∃ r st ds d st', Sim K r H st ∧ RDs K r H ds vs ∧ ds.length = n ∧ F ds st = some (d, st') ∧ Ok K r H Q d st'
def env0 (n : Nat) (ds : List D) : Env := ds.map some ++ List.replicate (n - ds.length) none
/-- a body's worth -/
def runF (n : Nat) (m : MS) : Fn0 := fun ds st => match m (env0 n ds) st with
  | some (.rt d, st') => some (d, st')
  | some (.nx _, st') => some (.non, st')
  | _ => none
section
variable {P : Program} {w : World} {K : PySem.W.Frag} {mg : Str → Option Value} {base : Heap}
theorem fn_ok {x qual : Str} {st : Stmt} {f : Addr} {fd : FuncData} {N ps : List Str} {k : Nat} {m : MS} (F : Fun K x qual st f fd) (S : FnScope N ps (defScope st))
    (hb : ∀ (cdv : Value) (A : Around) (outer : List PySem.Env) (s : Shared) (H : Hp) (E : XK), Room k (A.deeper (envOfC qual (defScope st) s.heap.objs.size f cdv)) → A.guards = some [] → Ss (cxOf CX0 P w K mg base N qual (defScope st) f cdv A outer s H E).nox noX (defBody st) m) :
    FnG P w K mg base CX0 (k + 1) f fd ps (spF K ps.length (runF N.length m)) := by
  refine FnG.of F S (fun vs H Q E h => ?_) fun cdv A outer s H vs Q E hr hgu h => ⟨_, (hb cdv A outer s H E hr hgu).nox, ?_⟩
  · obtain ⟨r, st, ds, d, st', _, h2, h3, _⟩ := h
    rw [← h2.length, h3]
  · obtain ⟨r, st, ds, d, st', h1, h2, h3, h4, h5⟩ := h
    unfold runF at h4
    cases q : m (env0 N.length ds) st with
    | none => rw [q] at h4; cases h4
    | some p =>
      obtain ⟨o, st1⟩ := p
      rw [q] at h4
      refine ⟨r, env0 N.length ds, st, o, st1, h1, RE.start h2, q, ?_⟩
      cases o with
      | rt d' => cases h4; exact h5
      | nx e => cases h4; exact fun r' H' σ' S' x' _ => h5 r' H' .non S' x' (by simp only [RD])
      | _ => cases h4
/-- a def's promise for another, weaker function -/
theorem fn_imp {f : Addr} {fd : FuncData} {ps : List Str} {k n : Nat} {F G : Fn0} {CX : CXT} (h : FnG P w K mg base CX k f fd ps (spF K n F))
    (w' : ∀ r H st ds vs d st' Q, Sim K r H st → RDs K r H ds vs → ds.length = n → G ds st = some (d, st') → Ok K r H Q d st' → ∃ d1 st1, F ds st = some (d1, st1) ∧ Ok K r H Q d1 st1) :
    FnG P w K mg base CX k f fd ps (spF K n G) := h.imp fun vs H Q E ⟨r, st, ds, d, st', h1, h2, h3, h4, h5⟩ => by
  obtain ⟨d1, st1, h6, h7⟩ := w' r H st ds vs d st' Q h1 h2 h3 h4 h5
  exact ⟨r, st, ds, d1, st1, h1, h2, h3, h6, h7⟩
end
/-- a call of a def -/
def Cl (X : Cx) (k : Nat) (x : Str) (n : Nat) (F : Fn0) : Prop := ∃ (f : Addr) (fd : FuncData) (ps : List Str), FnG X.prog X.w X.K X.mg X.base CX0 k f fd ps (spF X.K n F) ∧ X.mg x = some (.ref f) ∧ PySem.W.keepIn X.K (.ref f) = true ∧ Binds X.K fd ps []
section
variable {X : Cx} {EW : EWt}
/-- a call by values: with so many arguments -/
def xCl (n : Nat) (F : Fn0) (as : M (List D)) : M D := xN (fun ds st => if ds.length = n then F ds st else none) as
theorem call_weak {K : PySem.W.Frag} {n : Nat} {F : Fn0} {ms : M (List D)} {σ : L2.St} {H : Hp} {Q : VK} (h : tE K EW (xCl n F ms) σ H Q) : tA K EW ms σ H fun vs H1 => spF K n F vs H1 Q E0 := by
  obtain ⟨r, e, st, out, st', S, hE, h, P⟩ := h
  refine bnd_step S hE h P fun r1 H1 vs ds st1 S1 x1 hE1 hd h1 P1 => ?_
  obtain ⟨z, h3, rfl⟩ := ok0_some h1
  dsimp only at h3
  split at h3
  · exact ⟨r1, st1, ds, z, st', S1, hd, by assumption, h3, P1⟩
  · cases h3
theorem e_call {k j n : Nat} {x : Str} {p pos : Pos} {a : Expr} {es : List Expr} {F : Fn0} {ms : M (List D)} (c : Cl X k x n F) (hr : Room j X.A) (hgu : X.A.guards = some []) (hk : k ≤ j) (hg : Gl X x) (ha : As X EW (a :: es) ms) (hdb : (x == ("__debug__" : Str)) = false := by decide)
    (he : starEach (a :: es) X.env = (false, eval a X.env) :: starEach es X.env := by rfl) (hpl : (backTo pos (starEach es X.env)).any (·.1) = false := by rfl) : E X EW (.Call (.Name x p) (a :: es) [] pos) (xCl n F ms) := by
  obtain ⟨f, fd, ps, Fk, hm, hkp, hb⟩ := c
  exact PE.weak (pe_callG (E := fun _ => E0) Fk (hr.mono hk) hgu hg hm hkp hb (fun _ _ _ _ _ _ _ z => z.elim) ha hdb he hpl) fun σ H Q h => call_weak h
theorem e_call0 {k j : Nat} {x : Str} {p pos : Pos} {F : Fn0} (c : Cl X k x 0 F) (hr : Room j X.A) (hgu : X.A.guards = some []) (hk : k ≤ j) (hg : Gl X x) (hdb : (x == ("__debug__" : Str)) = false := by decide) : E X EW (.Call (.Name x p) [] [] pos) (xCl 0 F aN) := by
  obtain ⟨f, fd, ps, Fk, hm, hkp, hb⟩ := c
  refine PE.weak (pe_callG0 (E := fun _ => E0) Fk (hr.mono hk) hgu hg hm hkp hb (fun _ _ _ _ _ _ _ z => z.elim) hdb) ?_
  rintro σ H Q ⟨r, e, st, out, st', S, hE, h, P⟩
  have h : ok0 (F [] st) = some (out, st') := h
  obtain ⟨z, h3, rfl⟩ := ok0_some h
  exact ⟨r, st, [], z, st', S, RDs.nil, rfl, h3, P⟩
/-- a built-in function | a built-in type, called -/
theorem e_bf {x : Str} {p pos : Pos} {a : Expr} {es : List Expr} {id : String} {rr : List V → Hp → VK → Prop} {F : Fn0} {ms : M (List D)} (hc : CallR X (.builtin id) rr) (hf : CallS X.K rr F) (hg : Gl X x) (hm : X.mg x = none) (hv : bootBuiltins x = some (.builtin id)) (ha : As X EW (a :: es) ms)
    (hn : x ≠ "__name__" := by decide) (hdb : (x == ("__debug__" : Str)) = false := by decide) (he : starEach (a :: es) X.env = (false, eval a X.env) :: starEach es X.env := by rfl) (hpl : (backTo pos (starEach es X.env)).any (·.1) = false := by rfl) : E X EW (.Call (.Name x p) (a :: es) [] pos) (xN F ms) := by
  refine PE.weak (pe_callB hc hg hm hv ha hn hdb he hpl) ?_
  rintro σ H Q ⟨r, e, st, out, st', S, hE, h, P⟩
  refine bnd_step S hE h P fun r1 H1 vs ds st1 S1 x1 hE1 hd h1 P1 => ?_
  obtain ⟨z, h3, rfl⟩ := ok0_some h1
  exact hf r1 H1 st1 ds vs z st' Q S1 hd h3 P1
theorem e_ty {x : Str} {p pos : Pos} {a : Expr} {es : List Expr} {Ty : String} {rr : List V → Hp → VK → Prop} {F : Fn0} {ms : M (List D)} (hc : CallR X (.type Ty) rr) (hf : CallS X.K rr F) (hg : Gl X x) (hm : X.mg x = none) (hv : bootBuiltins x = some (.type Ty)) (ha : As X EW (a :: es) ms)
    (hn : x ≠ "__name__" := by decide) (hdb : (x == ("__debug__" : Str)) = false := by decide) (he : starEach (a :: es) X.env = (false, eval a X.env) :: starEach es X.env := by rfl) (hpl : (backTo pos (starEach es X.env)).any (·.1) = false := by rfl) : E X EW (.Call (.Name x p) (a :: es) [] pos) (xN F ms) := by
  refine PE.weak (pe_callTy hc hg hm hv ha hn hdb he hpl) ?_
  rintro σ H Q ⟨r, e, st, out, st', S, hE, h, P⟩
  refine bnd_step S hE h P fun r1 H1 vs ds st1 S1 x1 hE1 hd h1 P1 => ?_
  obtain ⟨z, h3, rfl⟩ := ok0_some h1
  exact hf r1 H1 st1 ds vs z st' Q S1 hd h3 P1
end

/-! ### things thrown away behind a def: fewer objects -/
mutual
/-- all its objects lie below n -/
def Lt (n : Nat) : D → Prop
  | .tup ds => Lts n ds
  | .ztp ds => Lts n ds
  | .lst ds => Lts n ds
  | .dct ks ds => Lts n ds
  | .ref k => k < n
  | _ => True
def Lts (n : Nat) : List D → Prop
  | [] => True
  | d :: ds => Lt n d ∧ Lts n ds
end
def LtO (n : Nat) : Ob → Prop
  | .lst ds => Lts n ds
  | .flst ds => Lts n ds
  | .dct _ ds => Lts n ds
  | .fdct _ ds => Lts n ds
/-- a store all of whose values lie within -/
def Wf (st : Store) : Prop := ∀ o ∈ st, LtO st.length o
mutual
/-- d' is d, the objects from n on being values -/
inductive Fz (st : Store) (n : Nat) : D → D → Prop
  | non : Fz st n .non .non
  | bl (b) : Fz st n (.bl b) (.bl b)
  | int (i) : Fz st n (.int i) (.int i)
  | str (x) : Fz st n (.str x) (.str x)
  | cst (c) : Fz st n (.cst c) (.cst c)
  | oth (x) : Fz st n (.oth x) (.oth x)
  | ref (k) (h : k < n) : Fz st n (.ref k) (.ref k)
  | tup {ds ds'} (h : Fzs st n ds ds') : Fz st n (.tup ds) (.tup ds')
  | ztp {ds ds'} (h : Fzs st n ds ds') : Fz st n (.ztp ds) (.ztp ds')
  | lst {ds ds'} (h : Fzs st n ds ds') : Fz st n (.lst ds) (.lst ds')
  | dct {ks ds ds'} (h : Fzs st n ds ds') : Fz st n (.dct ks ds) (.dct ks ds')
  | olst {k ds ds'} (hk : n ≤ k) (e : st[k]? = some (.lst ds)) (h : Fzs st n ds ds') : Fz st n (.ref k) (.lst ds')
  | odct {k ks ds ds'} (hk : n ≤ k) (e : st[k]? = some (.dct ks ds)) (h : Fzs st n ds ds') : Fz st n (.ref k) (.dct ks ds')
inductive Fzs (st : Store) (n : Nat) : List D → List D → Prop
  | nil : Fzs st n [] []
  | cons {d d' ds ds'} (h : Fz st n d d') (t : Fzs st n ds ds') : Fzs st n (d :: ds) (d' :: ds')
end
mutual
theorem Fz.refl {st : Store} {n : Nat} : ∀ {d : D}, Lt n d → Fz st n d d
  | .non, _ => .non
  | .bl _, _ => .bl _
  | .int _, _ => .int _
  | .str _, _ => .str _
  | .cst _, _ => .cst _
  | .oth _, _ => .oth _
  | .ref k, h => .ref k (by simpa only [Lt] using h)
  | .tup ds, h => .tup (Fzs.refl (by simpa only [Lt] using h))
  | .ztp ds, h => .ztp (Fzs.refl (by simpa only [Lt] using h))
  | .lst ds, h => .lst (Fzs.refl (by simpa only [Lt] using h))
  | .dct ks ds, h => .dct (Fzs.refl (by simpa only [Lt] using h))
theorem Fzs.refl {st : Store} {n : Nat} : ∀ {ds : List D}, Lts n ds → Fzs st n ds ds
  | [], _ => .nil
  | d :: ds, h => by
    simp only [Lts] at h
    exact .cons (Fz.refl h.1) (Fzs.refl h.2)
end
section
variable {K : PySem.W.Frag} {r r1 : Ad} {H H1 : Hp} {st st1 : Store}
mutual
theorem RD.lt : ∀ {d : D} {v : V}, RD K r H d v → Lt r.r.length d
  | .non, _, _ => by simp only [Lt]
  | .bl _, _, _ => by simp only [Lt]
  | .int _, _, _ => by simp only [Lt]
  | .str _, _, _ => by simp only [Lt]
  | .cst _, _, _ => by simp only [Lt]
  | .oth _, _, _ => by simp only [Lt]
  | .tup ds, v, h => by
    simp only [RD] at h
    obtain ⟨a, vs, e, s, q⟩ := h
    simp only [Lt]; exact RDs.lt q
  | .ztp ds, v, h => by
    simp only [RD] at h
    obtain ⟨a, vs, e, s, q⟩ := h
    simp only [Lt]; exact RDs.lt q
  | .lst ds, v, h => by
    simp only [RD] at h
    obtain ⟨a, vs, e, s, n, q⟩ := h
    simp only [Lt]; exact RDs.lt q
  | .dct ks ds, v, h => by
    simp only [RD] at h
    obtain ⟨a, kvs, e, s, n, k, q⟩ := h
    simp only [Lt]; exact RDs.lt q
  | .ref n, v, h => by
    simp only [RD] at h
    obtain ⟨a, s, e⟩ := h
    simp only [Lt]; exact (List.getElem?_eq_some_iff.mp s).1
theorem RDs.lt : ∀ {ds : List D} {vs : List V}, RDs K r H ds vs → Lts r.r.length ds
  | [], _, _ => by simp only [Lts]
  | d :: ds, vs, h => by
    simp only [RDs] at h
    obtain ⟨v, r', e, a, b⟩ := h
    simp only [Lts]; exact ⟨RD.lt a, RDs.lt b⟩
end
theorem RO.lt {o : Ob} {ho : Option HO} (q : RO K r H o ho) : LtO r.r.length o := by
  cases o with
  | lst ds => obtain ⟨vs, e, t⟩ := q; exact t.lt
  | flst ds => obtain ⟨o, vs, e, t⟩ := q; exact t.lt
  | dct ks ds => obtain ⟨kvs, e, k, t⟩ := q; exact t.lt
  | fdct ks ds => obtain ⟨kvs, e, k, t⟩ := q; exact t.lt
theorem Sim.wf (S : Sim K r H st) : Wf st := fun o m => by
  obtain ⟨i, e⟩ := List.getElem?_of_mem m
  have hi : i < r.r.length := by rw [S.len]; exact (List.getElem?_eq_some_iff.mp e).1
  have := (S.ob i r.r[i] o (by simp [hi]) e).lt
  rw [S.len] at this
  exact this
mutual
theorem RD.fz (S : Sim K r H st) (n : Nat) : ∀ {d d' : D}, Fz st n d d' → ∀ {v : V}, RD K r H d v → RD K ⟨r.r.take n, r.x⟩ H d' v
  | _, _, .non, _, h => by simpa only [RD] using h
  | _, _, .bl _, _, h => by simpa only [RD] using h
  | _, _, .int _, _, h => by simpa only [RD] using h
  | _, _, .str _, _, h => by simpa only [RD] using h
  | _, _, .cst _, _, h => by simpa only [RD] using h
  | _, _, .oth _, _, h => by
    simp only [RD] at h ⊢
    obtain ⟨a, e, q, m⟩ := h
    exact ⟨a, e, q, fun z => m.1 (List.mem_of_mem_take z), m.2⟩
  | _, _, .ref k hk, _, h => by
    simp only [RD] at h ⊢
    obtain ⟨a, e, q⟩ := h
    exact ⟨a, by rw [List.getElem?_take_of_lt hk]; exact e, q⟩
  | _, _, .tup t, _, h => by
    simp only [RD] at h ⊢
    obtain ⟨a, vs, e, s, q⟩ := h
    exact ⟨a, vs, e, s, RDs.fz S n t q⟩
  | _, _, .ztp t, _, h => by
    simp only [RD] at h ⊢
    obtain ⟨a, vs, e, s, q⟩ := h
    exact ⟨a, vs, e, s, RDs.fz S n t q⟩
  | _, _, .lst t, _, h => by
    simp only [RD] at h ⊢
    obtain ⟨a, vs, e, s, m, q⟩ := h
    exact ⟨a, vs, e, s, ⟨fun z => m.1 (List.mem_of_mem_take z), m.2⟩, RDs.fz S n t q⟩
  | _, _, .dct t, _, h => by
    simp only [RD] at h ⊢
    obtain ⟨a, kvs, e, s, m, k, q⟩ := h
    exact ⟨a, kvs, e, s, ⟨fun z => m.1 (List.mem_of_mem_take z), m.2⟩, k, RDs.fz S n t q⟩
  | _, _, .olst hk e t, _, h => by
    obtain ⟨a, rfl, h1, h2⟩ := S.at_ h e
    obtain ⟨vs, e1, q⟩ := h2
    simp only [RD]
    refine ⟨a, vs, rfl, e1, ⟨fun z => ?_, fun z => (S.xs a z).2 (List.mem_of_getElem? h1)⟩, RDs.fz S n t q⟩
    obtain ⟨j, ej⟩ := List.getElem?_of_mem z
    have hj : j < n := by
      have := (List.getElem?_eq_some_iff.mp ej).1
      simp at this; omega
    replace ej : (r.r.take n)[j]? = some a := ej
    rw [List.getElem?_take_of_lt hj] at ej
    have := ix_inj S.nd ej h1
    omega
  | _, _, .odct hk e t, _, h => by
    obtain ⟨a, rfl, h1, h2⟩ := S.at_ h e
    obtain ⟨kvs, e1, k, q⟩ := h2
    simp only [RD]
    refine ⟨a, kvs, rfl, .inl e1, ⟨fun z => ?_, fun z => (S.xs a z).2 (List.mem_of_getElem? h1)⟩, k, RDs.fz S n t q⟩
    obtain ⟨j, ej⟩ := List.getElem?_of_mem z
    have hj : j < n := by
      have := (List.getElem?_eq_some_iff.mp ej).1
      simp at this; omega
    replace ej : (r.r.take n)[j]? = some a := ej
    rw [List.getElem?_take_of_lt hj] at ej
    have := ix_inj S.nd ej h1
    omega
theorem RDs.fz (S : Sim K r H st) (n : Nat) : ∀ {ds ds' : List D}, Fzs st n ds ds' → ∀ {vs : List V}, RDs K r H ds vs → RDs K ⟨r.r.take n, r.x⟩ H ds' vs
  | _, _, .nil, _, h => by simpa only [RDs] using h
  | _, _, .cons a t, _, h => by
    simp only [RDs] at h ⊢
    obtain ⟨v, r', e, p, q⟩ := h
    exact ⟨v, r', e, RD.fz S n a p, RDs.fz S n t q⟩
end
/-- a store whose objects from n on are thrown away -/
structure Cut (st1 : Store) (n : Nat) (st' : Store) : Prop where
  le : n ≤ st1.length
  len : st'.length = n
  ob : ∀ (i : Nat) (o : Ob), i < n → st1[i]? = some o → ∃ o', st'[i]? = some o' ∧ match o, o' with
    | .lst ds, .lst ds' => Fzs st1 n ds ds'
    | .flst ds, .flst ds' => Fzs st1 n ds ds'
    | .dct ks ds, .dct ks' ds' => ks = ks' ∧ Fzs st1 n ds ds'
    | .fdct ks ds, .fdct ks' ds' => ks = ks' ∧ Fzs st1 n ds ds'
    | _, _ => False
theorem Sim.cut (S : Sim K r H st1) {n : Nat} {st' : Store} (c : Cut st1 n st') : Sim K ⟨r.r.take n, r.x⟩ H st' := by
  refine ⟨?_, S.nd.sublist (List.take_sublist _ _), fun a m => ⟨(S.xs a m).1, fun z => (S.xs a m).2 (List.mem_of_mem_take z)⟩, fun i a o' e1 e2 => ?_⟩
  · show (r.r.take n).length = _
    rw [List.length_take, S.len, c.len]; have := c.le; omega
  have hi : i < n := by rw [← c.len]; exact (List.getElem?_eq_some_iff.mp e2).1
  replace e1 : (r.r.take n)[i]? = some a := e1
  rw [List.getElem?_take_of_lt hi] at e1
  obtain ⟨o, e, q⟩ := S.ex e1
  obtain ⟨o2, e3, z⟩ := c.ob i o hi e
  rw [e2] at e3
  cases e3
  cases o <;> cases o' <;> first
    | exact z.elim
    | (obtain ⟨vs, h1, t⟩ := q; exact ⟨vs, h1, RDs.fz S n z t⟩)
    | (obtain ⟨o, vs, h1, t⟩ := q; exact ⟨o, vs, h1, RDs.fz S n z t⟩)
    | (obtain ⟨kvs, h1, k, t⟩ := q; exact ⟨kvs, h1, z.1 ▸ k, RDs.fz S n z.2 t⟩)
theorem Ok.cut {Q : VK} {d d' : D} {st' : Store} (S : Sim K r H st) (P : Ok K r H Q d' st') (c : Cut st1 st.length st') (f : Fz st1 st.length d d') : Ok K r H Q d st1 := fun r1 H1 v S1 x1 hd => by
  have S2 := S1.cut c
  obtain ⟨l, el, hl⟩ := x1.pre
  have et : r1.r.take st.length = r.r := by rw [el, ← S.len, List.take_left]
  refine P _ H1 v S2 ⟨x1.x, ⟨[], by simp [et], by simp⟩, x1.keep, x1.tup⟩ (RD.fz S1 _ f hd)
end
/-- the objects stand as they stood, others are thrown away -/
theorem Cut.same {st g : Store} (w : Wf st) : Cut (st ++ g) st.length st := ⟨by simp, rfl, fun i o hi e => by
  rw [List.getElem?_append_left hi] at e
  refine ⟨o, e, ?_⟩
  have := w o (List.mem_of_getElem? e)
  cases o with
  | lst ds => exact Fzs.refl this
  | flst ds => exact Fzs.refl this
  | dct ks ds => exact ⟨rfl, Fzs.refl this⟩
  | fdct ks ds => exact ⟨rfl, Fzs.refl this⟩⟩
/-- some were changed, to values that lie within -/
theorem Cut.of {st1 st' : Store} (n : Nat) (e : st'.length = n) (h : st1.take n = st') (w : Wf st') : Cut st1 n st' := by
  subst e
  refine ⟨by rw [← h, List.length_take]; omega, rfl, fun i o hi e => ?_⟩
  have e2 : st'[i]? = some o := by rw [← h, List.getElem?_take_of_lt hi]; exact e
  refine ⟨o, e2, ?_⟩
  have := w o (List.mem_of_getElem? e2)
  cases o with
  | lst ds => exact Fzs.refl this
  | flst ds => exact Fzs.refl this
  | dct ks ds => exact ⟨rfl, Fzs.refl this⟩
  | fdct ks ds => exact ⟨rfl, Fzs.refl this⟩
section
variable {P : Program} {w : World} {K : PySem.W.Frag} {mg : Str → Option Value} {base : Heap}
/-- THE RULE for a def's worth: F by its body; G what is told of it -/
theorem fn_tell {f : Addr} {fd : FuncData} {ps : List Str} {k n : Nat} {F G : Fn0} {CX : CXT} (h : FnG P w K mg base CX k f fd ps (spF K n F))
    (w' : ∀ ds st d st', Lts st.length ds → Wf st → ds.length = n → G ds st = some (d, st') → ∃ d1 st1, F ds st = some (d1, st1) ∧ Cut st1 st.length st' ∧ Fz st1 st.length d1 d) :
    FnG P w K mg base CX k f fd ps (spF K n G) := fn_imp h fun r H st ds vs d st' Q S hd hl hG P => by
  have lt := hd.lt
  rw [S.len] at lt
  obtain ⟨d1, st1, h1, h2, h3⟩ := w' ds st d st' lt S.wf hl hG
  exact ⟨d1, st1, h1, P.cut S h2 h3⟩
end
end FW

set_option maxHeartbeats 4000000
namespace FW
open PySem L2

/-! ### what kind of a thing -/
/-- a list that may be changed or read freely -/
def lstOf (d : D) (st : Store) : Option (List D) := match d with
  | .lst ds => some ds
  | .ref n => match st[n]? with
    | some (.lst ds) => some ds
    | _ => none
  | _ => none
/-- a list that is read -/
def rdlOf (d : D) (st : Store) : Option (List D) := match d with
  | .lst ds => some ds
  | .ref n => match st[n]? with
    | some (.lst ds) => some ds
    | some (.flst ds) => some ds
    | _ => none
  | _ => none
/-- a dict -/
def dctOf (d : D) (st : Store) : Option (List D × List D) := match d with
  | .dct ks ds => some (ks, ds)
  | .ref n => match st[n]? with
    | some (.dct ks ds) => some (ks, ds)
    | _ => none
  | _ => none
section
variable {K : PySem.W.Frag} {r : Ad} {H : Hp} {st : Store} {d : D} {v : V} {ds : List D}
theorem lstOf_ok (S : Sim K r H st) (h : RD K r H d v) (e : lstOf d st = some ds) : ∃ a vs, v = .ref a ∧ H a = some (.lst vs) ∧ RDs K r H ds vs := by
  cases d with
  | lst xs =>
    cases e
    simp only [RD] at h
    obtain ⟨a, vs, rfl, s, n, q⟩ := h
    exact ⟨a, vs, rfl, s, q⟩
  | ref n =>
    unfold lstOf at e
    cases q : st[n]? with
    | none => simp only [q] at e; cases e
    | some o =>
      obtain ⟨a, rfl, h1, h2⟩ := S.at_ h q
      simp only [q] at e
      cases o with
      | lst xs => cases e; obtain ⟨vs, e1, t⟩ := h2; exact ⟨a, vs, rfl, e1, t⟩
      | _ => cases e
  | _ => cases e
theorem rdlOf_ok (S : Sim K r H st) (h : RD K r H d v) (e : rdlOf d st = some ds) : ∃ a vs, v = .ref a ∧ SqL K H a vs ∧ RDs K r H ds vs := by
  cases d with
  | lst xs =>
    cases e
    simp only [RD] at h
    obtain ⟨a, vs, rfl, s, n, q⟩ := h
    exact ⟨a, vs, rfl, .of s, q⟩
  | ref n =>
    unfold rdlOf at e
    cases q : st[n]? with
    | none => simp only [q] at e; cases e
    | some o =>
      obtain ⟨a, rfl, h1, h2⟩ := S.at_ h q
      simp only [q] at e
      cases o with
      | lst xs => cases e; obtain ⟨vs, e1, t⟩ := h2; exact ⟨a, vs, rfl, .of e1, t⟩
      | flst xs => cases e; obtain ⟨o, vs, e1, t⟩ := h2; exact ⟨a, vs, rfl, .inl (.inr ⟨o, e1⟩), t⟩
      | _ => cases e
  | _ => cases e
theorem tup_ok (h : RD K r H (.tup ds) v) : ∃ a vs, v = .ref a ∧ SqT K H a vs ∧ RDs K r H ds vs := by
  simp only [RD] at h
  obtain ⟨a, vs, e, s, q⟩ := h
  exact ⟨a, vs, e, s.1, q⟩
theorem ptup_ok (h : RD K r H (.tup ds) v) : ∃ a vs, v = .ref a ∧ TQ K H a (true, vs) ∧ RDs K r H ds vs := by
  simpa only [RD] using h
theorem dctOf_ok {ks : List D} (S : Sim K r H st) (h : RD K r H d v) (e : dctOf d st = some (ks, ds)) : ∃ a kvs, v = .ref a ∧ Rd H a (.dK kvs) ∧ ks = kvs.map (fun kv => kD kv.1) ∧ RDs K r H ds (kvs.map (·.2)) := by
  cases d with
  | dct xs ys =>
    cases e
    simp only [RD] at h
    obtain ⟨a, kvs, rfl, s, n, k, q⟩ := h
    exact ⟨a, kvs, rfl, s, k, q⟩
  | ref n =>
    unfold dctOf at e
    cases q : st[n]? with
    | none => simp only [q] at e; cases e
    | some o =>
      obtain ⟨a, rfl, h1, h2⟩ := S.at_ h q
      simp only [q] at e
      cases o with
      | dct xs ys => cases e; obtain ⟨kvs, e1, k, t⟩ := h2; exact ⟨a, kvs, rfl, .inl e1, k, t⟩
      | _ => cases e
  | _ => cases e
/-- a new list, a new tuple, as a value -/
theorem Ok.lst {Q : VK} {vs : List V} {p : Addr} (P : Ok K r H Q (.lst ds) st) (S : Sim K r H st) (q : RDs K r H ds vs) (hp : H p = none) : Q (.ref p) (upd H p (.lst vs)) := by
  obtain ⟨S2, x2⟩ := S.side (o := .lst vs) hp
  exact P r _ _ S2 x2 (by simp only [RD]; exact ⟨p, vs, rfl, upd_same, S.notin hp, q.mono x2⟩)
theorem Ok.tup {Q : VK} {vs : List V} (P : Ok K r H Q (.tup ds) st) (S : Sim K r H st) (q : RDs K r H ds vs) : NewT H Q vs := fun p o ho hp => by
  obtain ⟨S2, x2⟩ := S.side (o := .frz o (.tup vs)) hp
  exact P r _ _ S2 x2 (by simp only [RD]; exact ⟨p, vs, rfl, ⟨.inl (.inr ⟨o, upd_same⟩), fun _ => .inl ⟨o, ho, upd_same⟩⟩, q.mono x2⟩)
theorem Ok.int {Q : VK} {i : Int} (P : Ok K r H Q (.int i) st) (S : Sim K r H st) : Q (.int i) H := P.here S (by simp only [RD])
theorem Ok.bl {Q : VK} {i : Bool} (P : Ok K r H Q (.bl i) st) (S : Sim K r H st) : Q (.bl i) H := P.here S (by simp only [RD])
theorem Ok.str {Q : VK} {i : Str} (P : Ok K r H Q (.str i) st) (S : Sim K r H st) : Q (.str i) H := P.here S (by simp only [RD])
theorem Ok.non {Q : VK} (P : Ok K r H Q .non st) (S : Sim K r H st) : Q .non H := P.here S (by simp only [RD])
theorem RD.int_ {i : Int} (h : RD K r H (.int i) v) : v = .int i := by simpa only [RD] using h
theorem RD.str_ {i : Str} (h : RD K r H (.str i) v) : v = .str i := by simpa only [RD] using h
theorem RD.bl_ {i : Bool} (h : RD K r H (.bl i) v) : v = .bl i := by simpa only [RD] using h
theorem RD.non_ (h : RD K r H .non v) : v = .non := by simpa only [RD] using h
theorem RDs.isNil {vs : List V} (h : RDs K r H ds vs) : vs = [] ↔ ds = [] := by
  have := h.length
  cases ds <;> cases vs <;> simp_all
theorem RDs.one {a : D} {vs : List V} (h : RDs K r H [a] vs) : ∃ v, vs = [v] ∧ RD K r H a v := by
  simp only [RDs] at h
  obtain ⟨v, r', rfl, h1, rfl⟩ := h
  exact ⟨v, rfl, h1⟩
theorem RDs.two {a b : D} {vs : List V} (h : RDs K r H [a, b] vs) : ∃ v w, vs = [v, w] ∧ RD K r H a v ∧ RD K r H b w := by
  simp only [RDs] at h
  obtain ⟨v, r', rfl, h1, w, r2, rfl, h2, rfl⟩ := h
  exact ⟨v, w, rfl, h1, h2⟩
theorem RDs.three {a b c : D} {vs : List V} (h : RDs K r H [a, b, c] vs) : ∃ v w u, vs = [v, w, u] ∧ RD K r H a v ∧ RD K r H b w ∧ RD K r H c u := by
  simp only [RDs] at h
  obtain ⟨v, r', rfl, h1, w, r2, rfl, h2, u, r3, rfl, h3, rfl⟩ := h
  exact ⟨v, w, u, rfl, h1, h2, h3⟩
theorem RDs.ints : ∀ {ns : List Int} {vs : List V}, RDs K r H (ns.map D.int) vs → vs = ns.map V.int
  | [], _, h => by simpa only [List.map_nil, RDs] using h
  | n :: ns, vs, h => by
    simp only [List.map_cons, RDs, RD] at h
    obtain ⟨v, r', rfl, rfl, h2⟩ := h
    rw [RDs.ints h2]; rfl
theorem RDs.ofInts : ∀ (ns : List Int), RDs K r H (ns.map D.int) (ns.map V.int)
  | [] => RDs.nil
  | n :: ns => RDs.cons (by simp only [RD]) (RDs.ofInts ns)
theorem RDs.strs : ∀ {ns : List Str} {vs : List V}, RDs K r H (ns.map D.str) vs → vs = ns.map V.str
  | [], _, h => by simpa only [List.map_nil, RDs] using h
  | n :: ns, vs, h => by
    simp only [List.map_cons, RDs, RD] at h
    obtain ⟨v, r', rfl, rfl, h2⟩ := h
    rw [RDs.strs h2]; rfl
theorem RDs.ofStrs : ∀ (ns : List Str), RDs K r H (ns.map D.str) (ns.map V.str)
  | [] => RDs.nil
  | n :: ns => RDs.cons (by simp only [RD]) (RDs.ofStrs ns)
theorem RDs.replicate {d : D} {v : V} (h : RD K r H d v) : ∀ n, RDs K r H (List.replicate n d) (List.replicate n v)
  | 0 => RDs.nil
  | n + 1 => RDs.cons h (RDs.replicate h n)
theorem RDs.rep {vs : List V} (h : RDs K r H ds vs) : ∀ n, RDs K r H (List.replicate n ds).flatten (List.replicate n vs).flatten
  | 0 => RDs.nil
  | n + 1 => by simp only [List.replicate_succ, List.flatten_cons]; exact h.append (RDs.rep h n)
end

/-! ### arithmetic -/
def oAdd : F2 := fun x y st => match x, y with
  | .int i, .int j => some (.int (i + j), st)
  | .str a, .str b => if a.length + b.length ≤ sizeLine then some (.str (a ++ b), st) else none
  | .tup a, .tup b => if a.length + b.length ≤ sizeLine then some (.tup (a ++ b), st) else none
  | x, y => match lstOf x st, lstOf y st with
    | some a, some b => if a.length + b.length ≤ sizeLine then some (.lst (a ++ b), st) else none
    | _, _ => none
def rAddAll (K : PySem.W.Frag) : R2 := fun x y H Q => (rI0 (fun i j => .int (i + j))) x y H Q ∨ (∃ i j, x = .str i ∧ y = .str j ∧ i.length + j.length ≤ sizeLine ∧ Q (.str (i ++ j)) H) ∨ rCatP K x y H Q ∨ rCat x y H Q
theorem op_addAll {X : Cx} : OpR X (binaryOp .Add) (rAddAll X.K) := OpR.or op_add (OpR.or op_add_str (OpR.or op_catP op_cat))
theorem oAdd_ok {K : PySem.W.Frag} : OpS K (rAddAll K) oAdd := by
  intro r H st d c x y z st' Q S hd hc h P
  unfold oAdd at h
  split at h
  · cases h; rw [hd.int_, hc.int_]; exact .inl ⟨_, _, rfl, rfl, P.int S⟩
  · split at h
    · cases h; rw [hd.str_, hc.str_]; exact .inr (.inl ⟨_, _, rfl, rfl, by assumption, P.str S⟩)
    · cases h
  · split at h
    · rename_i hl
      cases h
      have hd' := hd
      have hc' := hc
      obtain ⟨a, vs, rfl, s, q⟩ := tup_ok hd
      obtain ⟨b, ws, rfl, s2, q2⟩ := tup_ok hc
      refine .inr (.inr (.inl ⟨a, b, vs, ws, rfl, rfl, s, s2, by rw [← q.length, ← q2.length]; exact hl, fun e => ?_, fun e1 e2 => ?_, fun e1 e2 => P.tup S (q.append q2)⟩))
      · rw [q.isNil] at e
        subst e
        exact P.here S hc'
      · rw [q2.isNil] at e2
        subst e2
        rw [List.append_nil] at P
        exact P.here S hd'
    · cases h
  · cases q1 : lstOf d st with
    | none => simp only [q1] at h; cases h
    | some a =>
      cases q2 : lstOf c st with
      | none => simp only [q1, q2] at h; cases h
      | some b =>
        simp only [q1, q2] at h
        split at h
        · rename_i hl
          cases h
          obtain ⟨a, vs, rfl, s, t⟩ := lstOf_ok S hd q1
          obtain ⟨b, ws, rfl, s2, t2⟩ := lstOf_ok S hc q2
          exact .inr (.inr (.inr ⟨a, b, vs, ws, rfl, rfl, s, s2, by rw [← t.length, ← t2.length]; exact hl, fun p hp => P.lst S (t.append t2) hp⟩))
        · cases h
def oSub : F2 := fun x y st => match x, y with
  | .int i, .int j => some (.int (i - j), st)
  | _, _ => none
theorem oSub_ok {K : PySem.W.Frag} : OpS K (rI0 fun i j => .int (i - j)) oSub := by
  intro r H st d c x y z st' Q S hd hc h P
  unfold oSub at h
  split at h
  · cases h; rw [hd.int_, hc.int_]; exact ⟨_, _, rfl, rfl, P.int S⟩
  · cases h
instance (i j : Int) : Decidable (CMul i j) := by unfold CMul; infer_instance
/-- t * k, a tuple -/
theorem op_repTB {X : Cx} : OpR X (binaryOp .Mult) (fun x y H Q => ∃ l k xs, x = .ref l ∧ y = .int k ∧ SqT X.K H l xs ∧ xs ≠ [] ∧ 2 ≤ k ∧ (xs.length : Int) * k ≤ 1000000 ∧ NewT H Q (List.replicate k.toNat xs).flatten) := by
  intro pins s σ H x y v u Q I rx ry h
  obtain ⟨l, k, xs, rfl, rfl, hT, hne, h1, h2, q⟩ := h
  cases rx
  obtain ⟨t, rfl⟩ := ry
  obtain ⟨its, rv, ⟨⟨cls, dd, data, sl⟩, ho, hc, n, hd⟩, hs⟩ := I.tuple hT
  simp only at hc hd
  subst hc hd
  have hle : its.length = xs.length := rv.length.symm
  have hp : 1 ≤ xs.length := by cases xs with | nil => exact absurd rfl hne | cons a b => simp
  have hi : its.toArray.isEmpty = false := by cases its with | nil => simp at hle; omega | cons a b => rfl
  have hsz0 : its.toArray.size = xs.length := by rw [List.size_toArray, hle]
  have hk : k ≤ 1000000 := by
    have : (1 : Int) * k ≤ (xs.length : Int) * k := Int.mul_le_mul_of_nonneg_right (by omega) (by omega)
    omega
  have hm : ((its.toArray.size : Nat) : Int) * k ≤ 1000000 := by rw [hsz0]; exact h2
  have hm2 : k.toNat * xs.length ≤ 1000000 := by
    have e : ((k.toNat * xs.length : Nat) : Int) = (xs.length : Int) * k := by
      rw [Int.natCast_mul, Int.toNat_of_nonneg (by omega), Int.mul_comm]
    omega
  have flen : (List.replicate k.toNat its).flatten.length ≤ sizeLine := by
    rw [PyProof.Rows.lm_len_rep_flat, hle, PySem.sizeLine_eq]
    omega
  refine PySem.wpAny_binaryOp_repeat_ref (T := "tuple") (U := "int") (by decide) ⟨_, ho, rfl⟩ (fun s' => PySem.typeIs_int s' k t) noFill_tuple_mul PySem.F.fills_int_mul PySem.F.slot_int_rmul repeat_tuple PySem.F.slot_int_index.lookup
    (PySem.call_meets PySem.F.slot_int_rmul (PySem.typeIs_int s k t) PySem.F.entry_int_rmul (PySem.F.args_int_rmul_2 _ _) (int_rmul_tuple k t l its.toArray n dd sl)
      ⟨ho, rfl, ⟨_, ho, rfl⟩, PySem.call_meets PySem.F.slot_tuple_mul ⟨_, ho, rfl⟩ PySem.F.entry_tuple_mul (PySem.F.args_tuple_mul_2 _ _) (tuple_mulW l its.toArray n dd sl k t ?_ ?_ ?_ (by omega) ?_ (by rw [size_rep, List.size_toArray]; exact flen)) ⟨ho, ?_⟩⟩)
  · rw [decide_eq_false (by omega), decide_eq_false (by omega)] <;> rfl
  · rw [hi, Bool.false_or]; exact beq_eq_false_iff_ne.mpr (by omega)
  · rw [hi, Bool.or_false]; exact decide_eq_false (by omega)
  · unfold Builtin.Tuple.tupleTooMany
    rw [PySem.sizeLine_eq]
    exact decide_eq_false (by omega)
  rw [size_rep]
  exact laidT I (rv.rep k.toNat) rfl (by rw [PyProof.Rows.lm_len_rep_flat, PySem.sizeLine_eq]; omega) q _ s.toks
def oMul : F2 := fun x y st => match x, y with
  | .int i, .int j => if CMul i j then some (.int (i * j), st) else none
  | .tup a, .int k => if a ≠ [] ∧ 2 ≤ k ∧ (a.length : Int) * k ≤ 1000000 then some (.tup (List.replicate k.toNat a).flatten, st) else none
  | x, .int k => match lstOf x st with
    | some a => if -(2 ^ 63) ≤ k ∧ k < 2 ^ 63 ∧ a.length * k.toNat ≤ sizeLine then some (.lst (List.replicate k.toNat a).flatten, st) else none
    | none => none
  | _, _ => none
def rMulAll (K : PySem.W.Frag) : R2 := fun x y H Q => (rI CMul fun i j => .int (i * j)) x y H Q ∨ (∃ l k xs, x = .ref l ∧ y = .int k ∧ SqT K H l xs ∧ xs ≠ [] ∧ 2 ≤ k ∧ (xs.length : Int) * k ≤ 1000000 ∧ NewT H Q (List.replicate k.toNat xs).flatten) ∨ rRep x y H Q
theorem op_mulAll {X : Cx} : OpR X (binaryOp .Mult) (rMulAll X.K) := OpR.or op_mul (OpR.or op_repTB op_rep)
theorem oMul_ok {K : PySem.W.Frag} : OpS K (rMulAll K) oMul := by
  intro r H st d c x y z st' Q S hd hc h P
  unfold oMul at h
  split at h
  · split at h
    · cases h; rw [hd.int_, hc.int_]; exact .inl ⟨_, _, rfl, rfl, by assumption, P.int S⟩
    · cases h
  · split at h
    · rename_i hh
      obtain ⟨h1, h2, h3⟩ := hh
      cases h
      rw [hc.int_]
      obtain ⟨a, vs, rfl, s, q⟩ := tup_ok hd
      refine .inr (.inl ⟨a, _, vs, rfl, rfl, s, fun e => h1 (q.isNil.mp e), h2, by rw [← q.length]; exact h3, P.tup S (q.rep _)⟩)
    · cases h
  · split at h
    · rename_i q1
      split at h
      · rename_i hh
        obtain ⟨h1, h2, h3⟩ := hh
        cases h
        rw [hc.int_]
        obtain ⟨a, vs, rfl, s, t⟩ := lstOf_ok S hd q1
        exact .inr (.inr ⟨a, _, vs, rfl, rfl, s, h1, h2, by rw [← t.length]; exact h3, fun p hp => P.lst S (t.rep _) hp⟩)
      · cases h
    · cases h
  · cases h
instance (i j : Int) : Decidable (CDiv i j) := by unfold CDiv; infer_instance
instance (i j : Int) : Decidable (CPow i j) := by unfold CPow; infer_instance
def oFdiv : F2 := fun x y st => match x, y with
  | .int i, .int j => if CDiv i j then some (.int (i / j), st) else none
  | _, _ => none
theorem oFdiv_ok {K : PySem.W.Frag} : OpS K (rI CDiv fun i j => .int (i / j)) oFdiv := by
  intro r H st d c x y z st' Q S hd hc h P
  unfold oFdiv at h
  split at h
  · split at h
    · cases h; rw [hd.int_, hc.int_]; exact ⟨_, _, rfl, rfl, by assumption, P.int S⟩
    · cases h
  · cases h
def oMod : F2 := fun x y st => match x, y with
  | .int i, .int j => if 0 < j then some (.int (i % j), st) else none
  | _, _ => none
theorem oMod_ok {K : PySem.W.Frag} : OpS K (rI (fun _ j => 0 < j) fun i j => .int (i % j)) oMod := by
  intro r H st d c x y z st' Q S hd hc h P
  unfold oMod at h
  split at h
  · split at h
    · cases h; rw [hd.int_, hc.int_]; exact ⟨_, _, rfl, rfl, by assumption, P.int S⟩
    · cases h
  · cases h
def oPow : F2 := fun x y st => match x, y with
  | .int i, .int j => if CPow i j then some (.int (i ^ j.toNat), st) else none
  | _, _ => none
theorem oPow_ok {K : PySem.W.Frag} : OpS K (rI CPow fun i j => .int (i ^ j.toNat)) oPow := by
  intro r H st d c x y z st' Q S hd hc h P
  unfold oPow at h
  split at h
  · split at h
    · cases h; rw [hd.int_, hc.int_]; exact ⟨_, _, rfl, rfl, by assumption, P.int S⟩
    · cases h
  · cases h
def oNeg : F1 := fun x st => match x with
  | .int i => some (.int (-i), st)
  | _ => none
theorem oNeg_ok {K : PySem.W.Frag} : UnS K (rU fun i => .int (-i)) oNeg := by
  intro r H st d x z st' Q S hd h P
  unfold oNeg at h
  split at h
  · cases h; rw [hd.int_]; exact ⟨_, rfl, P.int S⟩
  · cases h

/-! ### comparisons of numbers, texts -/
def oCmp (p : Int → Int → Bool) (q : List Nat → List Nat → Bool) : F2 := fun x y st => match x, y with
  | .int i, .int j => some (.bl (p i j), st)
  | .str a, .str b => some (.bl (q a.cps.toList b.cps.toList), st)
  | _, _ => none
theorem oCmp_ok {K : PySem.W.Frag} {p : Int → Int → Bool} {q : List Nat → List Nat → Bool} : OpS K (fun x y H Q => (rI0 fun i j => .bl (p i j)) x y H Q ∨ ∃ i j, x = .str i ∧ y = .str j ∧ Q (.bl (q i.cps.toList j.cps.toList)) H) (oCmp p q) := by
  intro r H st d c x y z st' Q S hd hc h P
  unfold oCmp at h
  split at h
  · cases h; rw [hd.int_, hc.int_]; exact .inl ⟨_, _, rfl, rfl, P.bl S⟩
  · cases h; rw [hd.str_, hc.str_]; exact .inr ⟨_, _, rfl, rfl, P.bl S⟩
  · cases h
abbrev oLt : F2 := oCmp (fun i j => decide (i < j)) (fun a b => decide (a < b))
abbrev oLe : F2 := oCmp (fun i j => decide (i ≤ j)) (fun a b => decide (a ≤ b))
abbrev oGt : F2 := oCmp (fun i j => decide (j < i)) (fun a b => decide (b < a))
abbrev oGe : F2 := oCmp (fun i j => decide (j ≤ i)) (fun a b => decide (b ≤ a))
def isNon : D → Bool
  | .non => true
  | _ => false
def oIsN : F2 := fun x y st => match y with
  | .non => some (.bl (isNon x), st)
  | _ => none
def oNotN : F2 := fun x y st => match y with
  | .non => some (.bl !isNon x, st)
  | _ => none
theorem RD.isN {K : PySem.W.Frag} {r : Ad} {H : Hp} {d : D} {v : V} (h : RD K r H d v) (nc : ∀ c, d ≠ .cst c) : decide (v = .non) = isNon d := by
  cases d with
  | cst c => exact absurd rfl (nc c)
  | non => simp only [RD] at h; subst h; rfl
  | bl _ => simp only [RD] at h; subst h; rfl
  | int _ => simp only [RD] at h; subst h; rfl
  | str _ => simp only [RD] at h; subst h; rfl
  | tup _ => simp only [RD] at h; obtain ⟨_, _, rfl, _⟩ := h; rfl
  | ztp _ => simp only [RD] at h; obtain ⟨_, _, rfl, _⟩ := h; rfl
  | lst _ => simp only [RD] at h; obtain ⟨_, _, rfl, _⟩ := h; rfl
  | dct _ _ => simp only [RD] at h; obtain ⟨_, _, rfl, _⟩ := h; rfl
  | ref _ => simp only [RD] at h; obtain ⟨_, _, rfl⟩ := h; rfl
  | oth _ => simp only [RD] at h; obtain ⟨_, rfl, _⟩ := h; rfl
end FW

set_option maxHeartbeats 4000000
namespace FW
open PySem L2

/-! ### data -/
mutual
inductive PD (st : Store) : D → PyData → Prop
  | non : PD st .non .none
  | bl (b) : PD st (.bl b) (.bool b)
  | int (i) : PD st (.int i) (.int i)
  | str (x) : PD st (.str x) (.str x)
  | tup {ds ps} (h : PDs st ds ps) : PD st (.tup ds) (.tuple ps)
  | lst {ds ps} (h : PDs st ds ps) : PD st (.lst ds) (.list ps)
  | ref {k ds ps} (e : st[k]? = some (.lst ds)) (h : PDs st ds ps) : PD st (.ref k) (.list ps)
  | fref {k ds ps} (e : st[k]? = some (.flst ds)) (h : PDs st ds ps) : PD st (.ref k) (.list ps)
inductive PDs (st : Store) : List D → List PyData → Prop
  | nil : PDs st [] []
  | cons {d p ds ps} (h : PD st d p) (t : PDs st ds ps) : PDs st (d :: ds) (p :: ps)
end
mutual
theorem PD.det {st : Store} : ∀ {d : D} {p q : PyData}, PD st d p → PD st d q → p = q
  | _, _, _, .non, .non => rfl
  | _, _, _, .bl _, .bl _ => rfl
  | _, _, _, .int _, .int _ => rfl
  | _, _, _, .str _, .str _ => rfl
  | _, _, _, .tup h, .tup h' => by rw [PDs.det h h']
  | _, _, _, .lst h, .lst h' => by rw [PDs.det h h']
  | _, _, _, .ref e h, .ref e' h' => by rw [e] at e'; cases e'; rw [PDs.det h h']
  | _, _, _, .fref e h, .fref e' h' => by rw [e] at e'; cases e'; rw [PDs.det h h']
  | _, _, _, .ref e h, .fref e' h' => by rw [e] at e'; cases e'
  | _, _, _, .fref e h, .ref e' h' => by rw [e] at e'; cases e'
theorem PDs.det {st : Store} : ∀ {d : List D} {p q : List PyData}, PDs st d p → PDs st d q → p = q
  | _, _, _, .nil, .nil => rfl
  | _, _, _, .cons h t, .cons h' t' => by rw [PD.det h h', PDs.det t t']
end
section
variable {K : PySem.W.Frag} {r : Ad} {H : Hp} {st : Store}
mutual
theorem PD.dp (S : Sim K r H st) : ∀ {d : D} {p : PyData}, PD st d p → ∀ {v : V}, RD K r H d v → Dp K H v p
  | _, _, .non, _, h => by rw [h.non_]; exact .non
  | _, _, .bl _, _, h => by rw [h.bl_]; exact .bl _
  | _, _, .int _, _, h => by rw [h.int_]; exact .int _
  | _, _, .str _, _, h => by rw [h.str_]; exact .str _
  | _, _, .tup t, _, h => by
    obtain ⟨a, vs, rfl, s, q⟩ := tup_ok h
    exact .tup s (PDs.dp S t q)
  | _, _, .lst t, _, h => by
    simp only [RD] at h
    obtain ⟨a, vs, rfl, s, n, q⟩ := h
    exact .lst (.of s) (PDs.dp S t q)
  | _, _, .ref e t, _, h => by
    obtain ⟨a, rfl, h1, vs, h2, h3⟩ := S.at_ h e
    exact .lst (.of h2) (PDs.dp S t h3)
  | _, _, .fref e t, _, h => by
    obtain ⟨a, rfl, h1, o, vs, h2, h3⟩ := S.at_ h e
    exact .lst (.inl (.inr ⟨o, h2⟩)) (PDs.dp S t h3)
theorem PDs.dp (S : Sim K r H st) : ∀ {ds : List D} {ps : List PyData}, PDs st ds ps → ∀ {vs : List V}, RDs K r H ds vs → DpAll K H vs ps
  | _, _, .nil, _, h => by
    simp only [RDs] at h; subst h; exact .nil
  | _, _, .cons a t, _, h => by
    simp only [RDs] at h
    obtain ⟨v, r', rfl, h1, h2⟩ := h
    exact .cons (PD.dp S a h1) (PDs.dp S t h2)
end
end
open Classical in
/-- by what two values are as data -/
noncomputable def oData (g : PyData → PyData → Bool) : F2 := fun x y st =>
  if h : ∃ z : PyData × PyData, PD st x z.1 ∧ PD st y z.2 ∧ SeqAt.shaped z.1 = true ∧ SeqAt.shaped z.2 = true then some (.bl (g (choose h).1 (choose h).2), st) else none
theorem oData_of {g : PyData → PyData → Bool} {x y : D} {st : Store} {p q : PyData} (hp : PD st x p) (hq : PD st y q) (sp : SeqAt.shaped p = true) (sq : SeqAt.shaped q = true) : oData g x y st = some (.bl (g p q), st) := by
  have h : ∃ z : PyData × PyData, PD st x z.1 ∧ PD st y z.2 ∧ SeqAt.shaped z.1 = true ∧ SeqAt.shaped z.2 = true := ⟨(p, q), hp, hq, sp, sq⟩
  unfold oData
  rw [dif_pos h]
  have s := Classical.choose_spec h
  have e1 := s.1.det hp
  have e2 := s.2.1.det hq
  generalize Classical.choose h = c at e1 e2
  rw [e1, e2]
theorem oData_some {g : PyData → PyData → Bool} {x y z : D} {st st' : Store} (h : oData g x y st = some (z, st')) : ∃ p q, PD st x p ∧ PD st y q ∧ SeqAt.shaped p = true ∧ SeqAt.shaped q = true ∧ z = .bl (g p q) ∧ st' = st := by
  unfold oData at h
  split at h
  · rename_i hh
    cases h
    have s := Classical.choose_spec hh
    exact ⟨_, _, s.1, s.2.1, s.2.2.1, s.2.2.2, rfl, rfl⟩
  · cases h
noncomputable abbrev oEq : F2 := oData PyData.eqv
noncomputable abbrev oNe : F2 := oData fun p q => !PyData.eqv p q
theorem oEq_ok {K : PySem.W.Frag} : OpS K (rEqD K) oEq := by
  intro r H st d c x y z st' Q S hd hc h P
  obtain ⟨p, q, hp, hq, sp, sq, rfl, rfl⟩ := oData_some h
  exact ⟨p, q, hp.dp S hd, hq.dp S hc, sp, sq, P.bl S⟩
theorem oNe_ok {K : PySem.W.Frag} : OpS K (rNeD K) oNe := by
  intro r H st d c x y z st' Q S hd hc h P
  obtain ⟨p, q, hp, hq, sp, sq, rfl, rfl⟩ := oData_some h
  exact ⟨p, q, hp.dp S hd, hq.dp S hc, sp, sq, P.bl S⟩

/-! ### is None -/
def noCst : D → Bool
  | .cst _ => false
  | .oth _ => false
  | _ => true
/-- x is None, x is not None -/
def oIs : F2 := fun x y st => if noCst x = true then oIsN x y st else none
def oIsNot : F2 := fun x y st => if noCst x = true then oNotN x y st else none
theorem oIs_ok {K : PySem.W.Frag} : OpS K (fun x y H Q => y = .non ∧ Q (.bl (decide (x = .non))) H) oIs := by
  intro r H st d c x y z st' Q S hd hc h P
  unfold oIs at h
  split at h
  · rename_i nc
    unfold oIsN at h
    split at h
    · cases h
      refine ⟨hc.non_, ?_⟩
      rw [hd.isN (by rintro c rfl; cases nc)]
      exact P.bl S
    · cases h
  · cases h
theorem oIsNot_ok {K : PySem.W.Frag} : OpS K (fun x y H Q => y = .non ∧ Q (.bl (!decide (x = .non))) H) oIsNot := by
  intro r H st d c x y z st' Q S hd hc h P
  unfold oIsNot at h
  split at h
  · rename_i nc
    unfold oNotN at h
    split at h
    · cases h
      refine ⟨hc.non_, ?_⟩
      rw [hd.isN (by rintro c rfl; cases nc)]
      exact P.bl S
    · cases h
  · cases h

/-! ### order -/
theorem op_ltAll {X : Cx} : OpR X (compareOp .Lt) (fun x y H Q => (rI0 fun i j => .bl (decide (i < j))) x y H Q ∨ ∃ i j, x = .str i ∧ y = .str j ∧ Q (.bl (decide (i.cps.toList < j.cps.toList))) H) := OpR.or op_lt op_lt_str
theorem op_gtAll {X : Cx} : OpR X (compareOp .Gt) (fun x y H Q => (rI0 fun i j => .bl (decide (j < i))) x y H Q ∨ ∃ i j, x = .str i ∧ y = .str j ∧ Q (.bl (decide (j.cps.toList < i.cps.toList))) H) := OpR.or op_gt op_gt_str
theorem op_leAll {X : Cx} : OpR X (compareOp .LtE) (fun x y H Q => (rI0 fun i j => .bl (decide (i ≤ j))) x y H Q ∨ ∃ i j, x = .str i ∧ y = .str j ∧ Q (.bl (!decide (j.cps.toList < i.cps.toList))) H) := OpR.or op_le op_le_str
theorem op_geAll {X : Cx} : OpR X (compareOp .GtE) (fun x y H Q => (rI0 fun i j => .bl (decide (j ≤ i))) x y H Q ∨ ∃ i j, x = .str i ∧ y = .str j ∧ Q (.bl (!decide (i.cps.toList < j.cps.toList))) H) := OpR.or op_ge op_ge_str

/-! ### in -/
def flatD : D → Option V
  | .non => some .non
  | .bl b => some (.bl b)
  | .int i => some (.int i)
  | .str x => some (.str x)
  | _ => none
theorem flatD_ok {K : PySem.W.Frag} {r : Ad} {H : Hp} : ∀ {d : D} {v w : V}, flatD d = some w → RD K r H d v → v = w := by
  intro d v w h q
  cases d <;> simp only [flatD] at h <;> first | (cases h; simpa only [RD] using q) | cases h
def flatsD : List D → Option (List V)
  | [] => some []
  | d :: ds => match flatD d, flatsD ds with
    | some v, some vs => some (v :: vs)
    | _, _ => none
theorem flatsD_ok {K : PySem.W.Frag} {r : Ad} {H : Hp} : ∀ {ds : List D} {vs ws : List V}, flatsD ds = some ws → RDs K r H ds vs → vs = ws
  | [], _, _, h, q => by cases h; simpa only [RDs] using q
  | d :: ds, vs, ws, h, q => by
    simp only [RDs] at q
    obtain ⟨v, r', rfl, h1, h2⟩ := q
    unfold flatsD at h
    split at h
    · rename_i e1 e2
      cases h
      rw [flatD_ok e1 h1, flatsD_ok e2 h2]
    · cases h
/-- a list or a tuple -/
def seqOf (d : D) (st : Store) : Option (List D) := match d with
  | .tup ds => some ds
  | d => rdlOf d st
theorem seqOf_ok {K : PySem.W.Frag} {r : Ad} {H : Hp} {st : Store} {d : D} {v : V} {ds : List D} (S : Sim K r H st) (h : RD K r H d v) (e : seqOf d st = some ds) : ∃ a vs, v = .ref a ∧ (SqL K H a vs ∨ SqT K H a vs) ∧ RDs K r H ds vs := by
  unfold seqOf at e
  split at e
  · cases e
    obtain ⟨a, vs, rfl, s, q⟩ := tup_ok h
    exact ⟨a, vs, rfl, .inr s, q⟩
  · obtain ⟨a, vs, rfl, s, q⟩ := rdlOf_ok S h e
    exact ⟨a, vs, rfl, .inl s, q⟩
/-- x in y: a sign or a text in a text; a number, a text .. in a list or a tuple -/
def oIn (neg : Bool) : F2 := fun x y st => match x, y with
  | .str a, .str b => some (.bl (if neg then !(!(Builtin.Str.occurrences b a 0 b.length 1).isEmpty) else !(Builtin.Str.occurrences b a 0 b.length 1).isEmpty), st)
  | x, y => match flatD x, (seqOf y st).bind flatsD with
    | some v, some vs => if flatV v = true ∧ vs.all flatV = true then some (.bl (if neg then !inV v vs else inV v vs), st) else none
    | _, _ => none
def rInAll (K : PySem.W.Frag) (neg : Bool) : R2 := fun x y H Q => (∃ i j, x = .str i ∧ y = .str j ∧ Q (.bl (if neg then !(!(Builtin.Str.occurrences j i 0 j.length 1).isEmpty) else !(Builtin.Str.occurrences j i 0 j.length 1).isEmpty)) H) ∨ rIn K neg x y H Q
theorem op_inAll {X : Cx} : OpR X (compareOp .In) (rInAll X.K false) := OpR.or op_in_str op_in_seq
theorem op_notInAll {X : Cx} : OpR X (compareOp .NotIn) (rInAll X.K true) := OpR.or op_notin_str op_notIn_seq
theorem oIn_ok {K : PySem.W.Frag} {neg : Bool} : OpS K (rInAll K neg) (oIn neg) := by
  intro r H st d c x y z st' Q S hd hc h P
  unfold oIn at h
  split at h
  · cases h
    rw [hd.str_, hc.str_]
    exact .inl ⟨_, _, rfl, rfl, P.bl S⟩
  · split at h
    · rename_i v vs e1 e2
      split at h
      · rename_i hh
        obtain ⟨h1, h2⟩ := hh
        cases h
        cases q : seqOf c st with
        | none => rw [q] at e2; cases e2
        | some ds =>
          rw [q] at e2
          obtain ⟨a, ws, rfl, s, t⟩ := seqOf_ok S hc q
          rw [flatD_ok e1 hd]
          refine .inr ⟨a, ws, rfl, s, h1, ?_, ?_⟩
          · rw [flatsD_ok e2 t]; exact h2
          · rw [flatsD_ok e2 t]; exact P.bl S
      · cases h
    · cases h
/-- x in a dict -/
def keyD : D → Option Key
  | .int i => some (.inl i)
  | .str x => some (.inr x)
  | _ => none
theorem keyD_ok {K : PySem.W.Frag} {r : Ad} {H : Hp} {d : D} {v : V} {k : Key} (h : keyD d = some k) (q : RD K r H d v) : v = kV k ∧ d = kD k := by
  cases d <;> simp only [keyD] at h <;> first | (cases h; simp only [RD] at q; exact ⟨q, rfl⟩) | cases h
theorem kD_inj {a b : Key} (h : kD a = kD b) : a = b := by
  cases a <;> cases b <;> simp only [kD] at h <;> first | (injection h with h; rw [h]) | cases h
open Classical in
/-- a dict's value at a key; a key put -/
noncomputable def dGet : List D → List D → D → Option D
  | k :: ks, d :: ds, x => if k = x then some d else dGet ks ds x
  | _, _, _ => none
open Classical in
noncomputable def dHas (ks : List D) (x : D) : Bool := decide (x ∈ ks)
open Classical in
noncomputable def dPut (ks ds : List D) (x v : D) : List D × List D := if x ∈ ks then (ks, List.zipWith (fun k d => if k = x then v else d) ks ds) else (ks ++ [x], ds ++ [v])
section
variable {K : PySem.W.Frag} {r : Ad} {H : Hp} {st : Store}
theorem dGet_ok {k : Key} : ∀ {kvs : List (Key × V)} {ds : List D}, RDs K r H ds (kvs.map (·.2)) → match dGet (kvs.map fun kv => kD kv.1) ds (kD k) with
    | some d => ∃ v, valV kvs k = some v ∧ RD K r H d v
    | none => valV kvs k = none
  | [], ds, h => by
    simp only [List.map_nil, dGet]
    rfl
  | (j, v) :: kvs, [], h => by simp only [List.map_cons, RDs] at h; cases h
  | (j, v) :: kvs, d :: ds, h => by
    simp only [List.map_cons, RDs] at h
    obtain ⟨v', r', e, h1, h2⟩ := h
    cases e
    have ih := dGet_ok (k := k) (kvs := kvs) h2
    simp only [List.map_cons, dGet]
    by_cases e : j = k
    · subst e
      rw [if_pos rfl]
      exact ⟨v, valV_pos rfl, h1⟩
    · rw [if_neg (fun z => e (kD_inj z)), valV_neg e]
      exact ih
theorem any_key {k : Key} {kvs : List (Key × V)} : (kvs.any fun kv => decide (kv.1 = k)) = true ↔ kD k ∈ kvs.map fun kv => kD kv.1 := by
  rw [List.any_eq_true, List.mem_map]
  constructor
  · rintro ⟨p, h1, h2⟩
    exact ⟨p, h1, by rw [of_decide_eq_true h2]⟩
  · rintro ⟨p, h1, h2⟩
    exact ⟨p, h1, decide_eq_true (kD_inj h2)⟩
theorem zip_put {k : Key} {d : D} {v : V} (hd : RD K r H d v) : ∀ {kvs : List (Key × V)} {ds : List D}, RDs K r H ds (kvs.map (·.2)) →
    (kvs.map fun kv => if kv.1 = k then (kv.1, v) else kv).map (fun kv => kD kv.1) = kvs.map (fun kv => kD kv.1) ∧
    RDs K r H (List.zipWith (fun j c => @ite D (j = kD k) (Classical.propDecidable _) d c) (kvs.map fun kv => kD kv.1) ds) ((kvs.map fun kv => if kv.1 = k then (kv.1, v) else kv).map (·.2))
  | [], ds, h => ⟨rfl, by simp [RDs]⟩
  | (j, u) :: kvs, [], h => by simp only [List.map_cons, RDs] at h; cases h
  | (j, u) :: kvs, c :: ds, h => by
    simp only [List.map_cons, RDs] at h
    obtain ⟨v', r', e, h1, h2⟩ := h
    cases e
    obtain ⟨i1, i2⟩ := zip_put (k := k) hd h2
    by_cases e : j = k
    · subst e
      simp only [List.map_cons, if_true, List.zipWith_cons_cons]
      exact ⟨by rw [i1], RDs.cons hd i2⟩
    · have e2 : ¬ kD j = kD k := fun z => e (kD_inj z)
      simp only [List.map_cons, if_neg e, List.zipWith_cons_cons, if_neg e2]
      exact ⟨by rw [i1], RDs.cons h1 i2⟩
theorem dPut_ok {k : Key} {d : D} {v : V} (hd : RD K r H d v) {kvs : List (Key × V)} {ds : List D} (h : RDs K r H ds (kvs.map (·.2))) :
    (dPut (kvs.map fun kv => kD kv.1) ds (kD k) d).1 = (putK kvs k v).map (fun kv => kD kv.1) ∧ RDs K r H (dPut (kvs.map fun kv => kD kv.1) ds (kD k) d).2 ((putK kvs k v).map (·.2)) := by
  unfold dPut putK
  by_cases m : kD k ∈ kvs.map fun kv => kD kv.1
  · rw [if_pos m, if_pos (any_key.mpr m)]
    obtain ⟨i1, i2⟩ := zip_put (k := k) hd h
    exact ⟨i1.symm, i2⟩
  · rw [if_neg m, if_neg (fun z => m (any_key.mp z))]
    simp only [List.map_append, List.map_cons, List.map_nil]
    exact ⟨trivial, h.append (RDs.cons hd RDs.nil)⟩
end
end FW

set_option maxHeartbeats 4000000
namespace FW
open PySem L2

/-! ### subscripts -/
def oIx : F2 := fun x y st => match x, y with
  | .str z, .int i => if z.length ≤ sizeLine then (match atI z.cps.toList i with
    | some c => some (.str ⟨#[c]⟩, st)
    | none => none) else none
  | x, .int i => match seqOf x st with
    | some ds => (match atI ds i with
      | some d => some (d, st)
      | none => none)
    | none => none
  | _, _ => none
theorem RDs.atI {K : PySem.W.Frag} {r : Ad} {H : Hp} {ds : List D} {vs : List V} {i : Int} {d : D} (h : RDs K r H ds vs) (e : L2.atI ds i = some d) : ∃ v, L2.atI vs i = some v ∧ RD K r H d v := by
  unfold L2.atI at e ⊢
  rw [← h.length]
  cases q : ixN ds.length i with
  | none => rw [q] at e; cases e
  | some j =>
    rw [q] at e
    exact h.get e
theorem oIx_ok {K : PySem.W.Frag} : OpS K (rIx K) oIx := by
  intro r H st d c x y z st' Q S hd hc h P
  unfold oIx at h
  split at h
  · split at h
    · split at h
      · rename_i e
        cases h
        rw [hd.str_, hc.int_]
        exact .inr (.inr ⟨_, _, _, rfl, rfl, by assumption, e, P.str S⟩)
      · cases h
    · cases h
  · split at h
    · rename_i ds e
      split at h
      · rename_i e2
        cases h
        obtain ⟨a, vs, rfl, s, t⟩ := seqOf_ok S hd e
        rw [hc.int_]
        obtain ⟨v, h1, h2⟩ := t.atI e2
        rcases s with s | s
        · exact .inl ⟨a, vs, _, v, rfl, rfl, s, h1, P.here S h2⟩
        · exact .inr (.inl ⟨a, vs, _, v, rfl, rfl, s, h1, P.here S h2⟩)
      · cases h
    · cases h
  · cases h
section
variable {X : Cx} {EW : EWt}
theorem e_sub {a b : Expr} {pos : Pos} {ma mb : M D} (ha : E X EW a ma) (hb : E X EW b mb) (hs : PlainIx b := by intro _ _; rfl) : E X EW (.Subscript a b pos) (x2 oIx ma mb) := by
  refine PE.weak (pe_ix ix_seq ha hb hs) ?_
  rintro σ H Q ⟨r, e, st, out, st', S, hE, h, P⟩
  refine bnd_step S hE h P fun r1 H1 x d st1 S1 x1 hE1 hd h1 P1 => bnd_step S1 hE1 h1 P1 fun r2 H2 y c st2 S2 x2 hE2 hc h2 P2 => ?_
  obtain ⟨z, h3, rfl⟩ := ok0_some h2
  exact oIx_ok r2 H2 st2 d c x y z st' Q S2 (hd.mono x2) hc h3 P2
end
/-- a dict's -/
noncomputable def oDGet : F2 := fun x y st => match dctOf x st with
  | some (ks, ds) => if (keyD y).isSome = true then (match dGet ks ds y with
    | some d => some (d, st)
    | none => none) else none
  | none => none
theorem keyD_some {d : D} (h : (keyD d).isSome = true) : ∃ k, keyD d = some k := by
  cases q : keyD d with
  | none => rw [q] at h; cases h
  | some k => exact ⟨k, rfl⟩
noncomputable def oDIn (neg : Bool) : F2 := fun x y st => match dctOf y st with
  | some (ks, ds) => if (keyD x).isSome = true then some (.bl (if neg then !(dGet ks ds x).isSome else (dGet ks ds x).isSome), st) else none
  | none => none
section
variable {X : Cx} {EW : EWt}
theorem e_dget {j : Nat} {a b : Expr} {pos : Pos} {ma mb : M D} (hr : Room j X.A) (ha : E X EW a ma) (hb : E X EW b mb) (hs : NoSl b := by intro _ _; rfl) : E X EW (.Subscript a b pos) (x2 oDGet ma mb) := by
  refine PE.weak (pe_dget (hu_of hr) ha hb hs) ?_
  rintro σ H Q ⟨r, e, st, out, st', S, hE, h, P⟩
  refine bnd_step S hE h P fun r1 H1 x d st1 S1 x1 hE1 hd h1 P1 => bnd_step S1 hE1 h1 P1 fun r2 H2 y c st2 S2 x2 hE2 hc h2 P2 => ?_
  obtain ⟨z, h3, rfl⟩ := ok0_some h2
  unfold oDGet at h3
  split at h3
  · rename_i ks ds e1
    split at h3
    · rename_i hk
      split at h3
      · rename_i v e2
        cases h3
        obtain ⟨a, kvs, rfl, s, k, t⟩ := dctOf_ok S2 (hd.mono x2) e1
        obtain ⟨kk, ek⟩ := keyD_some hk
        obtain ⟨rfl, rfl⟩ := keyD_ok ek hc
        have g := dGet_ok (k := kk) t
        rw [← k, e2] at g
        obtain ⟨w, g1, g2⟩ := g
        exact ⟨a, w, rfl, by rw [← g1]; exact (.inl ⟨kvs, kk, s, rfl, rfl⟩), P2 r2 H2 w S2 (Ext.refl _ _ _) g2⟩
      · cases h3
    · cases h3
  · cases h3
theorem dIn_core {neg : Bool} {r : Ad} {H : Hp} {st st' : Store} {d c z : D} {x y : V} {Q : VK} (S : Sim X.K r H st) (hd : RD X.K r H d x) (hc : RD X.K r H c y) (h : oDIn neg d c st = some (z, st')) (P : Ok X.K r H Q z st') :
    ∃ a o, y = .ref a ∧ DGet H a x o ∧ Q (.bl (if neg then !o.isSome else o.isSome)) H := by
  unfold oDIn at h
  split at h
  · rename_i ks ds e1
    split at h
    · rename_i hk
      cases h
      obtain ⟨a, kvs, rfl, s, k, t⟩ := dctOf_ok S hc e1
      obtain ⟨kk, ek⟩ := keyD_some hk
      obtain ⟨rfl, rfl⟩ := keyD_ok ek hd
      have g := dGet_ok (k := kk) t
      rw [← k] at g
      refine ⟨a, valV kvs kk, rfl, (.inl ⟨kvs, kk, s, rfl, rfl⟩), ?_⟩
      cases q : dGet ks ds (kD kk) with
      | none =>
        rw [q] at g P
        rw [g]
        exact P.bl S
      | some v =>
        rw [q] at g P
        obtain ⟨w, g1, g2⟩ := g
        rw [g1]
        exact P.bl S
    · cases h
  · cases h
theorem e_din {j : Nat} {a b : Expr} {pos : Pos} {ma mb : M D} (hr : Room j X.A) (ha : E X EW a ma) (hb : E X EW b mb) (h1 : behindInMarks .In b = false := by rfl) : E X EW (.Compare a [.In] [b] pos) (x2 (oDIn false) ma mb) := by
  refine PE.weak (pe_cmp (pc_din (hu_of hr) ha hb) h1) ?_
  rintro σ H Q ⟨r, e, st, out, st', S, hE, h, P⟩
  refine bnd_step S hE h P fun r1 H1 x d st1 S1 x1 hE1 hd h1 P1 => bnd_step S1 hE1 h1 P1 fun r2 H2 y c st2 S2 x2 hE2 hc h2 P2 => ?_
  obtain ⟨z, h3, rfl⟩ := ok0_some h2
  exact dIn_core S2 (hd.mono x2) hc h3 P2
theorem e_dnin {j : Nat} {a b : Expr} {pos : Pos} {ma mb : M D} (hr : Room j X.A) (ha : E X EW a ma) (hb : E X EW b mb) (h1 : behindInMarks .NotIn b = false := by rfl) : E X EW (.Compare a [.NotIn] [b] pos) (x2 (oDIn true) ma mb) := by
  refine PE.weak (pe_cmp (pc_dnotin (hu_of hr) ha hb) h1) ?_
  rintro σ H Q ⟨r, e, st, out, st', S, hE, h, P⟩
  refine bnd_step S hE h P fun r1 H1 x d st1 S1 x1 hE1 hd h1 P1 => bnd_step S1 hE1 h1 P1 fun r2 H2 y c st2 S2 x2 hE2 hc h2 P2 => ?_
  obtain ⟨z, h3, rfl⟩ := ok0_some h2
  exact dIn_core S2 (hd.mono x2) hc h3 P2
theorem bnd_bnd {α β γ : Type} {o : Option (Res α × Store)} {k : α → Store → Option (Res β × Store)} {l : β → Store → Option (Res γ × Store)} : bnd (bnd o k) l = bnd o fun a st => bnd (k a st) l := by
  cases o with
  | none => rfl
  | some p =>
    obtain ⟨o, s⟩ := p
    cases o <;> rfl
/-- a comparison as a test: of its value -/
theorem t_of {a b : Expr} {op : CmpOp} {pos : Pos} {m : M D} {t : TE} (hp : PC X op a b t) (hw : ∀ σ H Q, tE X.K EW m σ H Q → t σ H Q) (h1 : behindInMarks op b = false := by rfl) : T X EW (.Compare a [op] [b] pos) (xTst m) := by
  refine PT.weak (pt_cmp hp h1) ?_
  rintro σ H Q ⟨r, e, st, out, st', S, hE, h, P⟩
  refine hw σ H _ ?_
  refine bnd_step S hE h P fun r1 H1 x d st1 S1 x1 hE1 hd h1 P1 => ?_
  dsimp only at h1
  split at h1
  · cases h1
    exact ⟨_, hd.bl_, P1 r1 H1 _ S1 (Ext.refl _ _ _) rfl⟩
  · cases h1
theorem din_weak {neg : Bool} {ma mb : M D} {σ : L2.St} {H : Hp} {Q : VK} (h : tE X.K EW (x2 (oDIn neg) ma mb) σ H Q) : tE X.K EW ma σ H fun x H1 => tE X.K EW mb σ H1 fun y H2 => ∃ a o, y = .ref a ∧ DGet H2 a x o ∧ Q (.bl (if neg then !o.isSome else o.isSome)) H2 := by
  obtain ⟨r, e, st, out, st', S, hE, h, P⟩ := h
  refine bnd_step S hE h P fun r1 H1 x d st1 S1 x1 hE1 hd h1 P1 => bnd_step S1 hE1 h1 P1 fun r2 H2 y c st2 S2 x2 hE2 hc h2 P2 => ?_
  obtain ⟨z, h3, rfl⟩ := ok0_some h2
  exact dIn_core S2 (hd.mono x2) hc h3 P2
theorem t_din {j : Nat} {a b : Expr} {pos : Pos} {ma mb : M D} (hr : Room j X.A) (ha : E X EW a ma) (hb : E X EW b mb) (h1 : behindInMarks .In b = false := by rfl) : T X EW (.Compare a [.In] [b] pos) (xTst (x2 (oDIn false) ma mb)) :=
  t_of (pc_din (hu_of hr) ha hb) (fun _ _ _ h => din_weak h) h1
theorem t_dnin {j : Nat} {a b : Expr} {pos : Pos} {ma mb : M D} (hr : Room j X.A) (ha : E X EW a ma) (hb : E X EW b mb) (h1 : behindInMarks .NotIn b = false := by rfl) : T X EW (.Compare a [.NotIn] [b] pos) (xTst (x2 (oDIn true) ma mb)) :=
  t_of (pc_dnotin (hu_of hr) ha hb) (fun _ _ _ h => din_weak h) h1

/-! ### slices -/
def pN : M (Option Int) := fun _ st => some (.ok none, st)
def pS (m : M D) : M (Option Int) := xbnd m fun d _ st => match d with
  | .int i => some (.ok (some i), st)
  | _ => none
def Po (X : Cx) (EW : EWt) (e : Option Expr) (m : M (Option Int)) : Prop := PO X e (tX X.K REq EW m)
theorem PO.weak {X : Cx} {e : Option Expr} {t t' : TO} (h : PO X e t) (w : ∀ σ H Q, t' σ H Q → t σ H Q) : PO X e t' := ⟨fun pins s σ H Q I q => h.run pins s σ H Q I (w σ H Q q)⟩
theorem p_none : Po X EW none pN := by
  refine PO.weak po_none ?_
  rintro σ H Q ⟨r, e, st, out, st', S, hE, h, P⟩
  cases h
  exact P r H none S (Ext.refl _ _ _) rfl
theorem p_some {a : Expr} {m : M D} (h : E X EW a m) : Po X EW (some a) (pS m) := by
  refine PO.weak (po_some h) ?_
  rintro σ H Q ⟨r, e, st, out, st', S, hE, h, P⟩
  refine bnd_step S hE h P fun r1 H1 x d st1 S1 x1 hE1 hd h1 P1 => ?_
  dsimp only at h1
  split at h1
  · cases h1
    exact ⟨_, hd.int_, P1 r1 H1 _ S1 (Ext.refl _ _ _) rfl⟩
  · cases h1
def cutD (ds : List D) (lo hi : Option Int) : List D := (ds.drop (HT.sIx ds.length 0 lo)).take (HT.sIx ds.length ds.length hi - HT.sIx ds.length 0 lo)
theorem RDs.cut {K : PySem.W.Frag} {r : Ad} {H : Hp} {ds : List D} {vs : List V} (h : RDs K r H ds vs) (lo hi : Option Int) : RDs K r H (cutD ds lo hi) (cutV vs lo hi) := by
  unfold cutD cutV
  rw [h.length]
  exact (h.drop _).take _
abbrev FSl := D → Option Int → Option Int → Store → Option (D × Store)
def oSl : FSl := fun x lo hi st => match x with
  | .str z => if z.length ≤ sizeLine then some (.str (cutS z lo hi), st) else none
  | .tup ds => some (.tup (cutD ds lo hi), st)
  | x => match rdlOf x st with
    | some ds => some (.lst (cutD ds lo hi), st)
    | none => none
def xSl (f : FSl) (a : M D) (lo hi : M (Option Int)) : M D := xbnd a fun d => xbnd lo fun l => xbnd hi fun u _ st => ok0 (f d l u st)
def rSlPll (K : PySem.W.Frag) : V → Option Int → Option Int → Hp → VK → Prop := fun x lo hi H Q => rSlL K x lo hi H Q ∨ rSlP K x lo hi H Q ∨ rSlS x lo hi H Q
theorem oSl_ok {r : Ad} {H : Hp} {st st' : Store} {d z : D} {x : V} {lo hi : Option Int} {Q : VK} (S : Sim X.K r H st) (hd : RD X.K r H d x) (h : oSl d lo hi st = some (z, st')) (P : Ok X.K r H Q z st') : rSlPll X.K x lo hi H Q := by
  unfold oSl at h
  split at h
  · split at h
    · cases h; rw [hd.str_]; exact .inr (.inr ⟨_, rfl, by assumption, P.str S⟩)
    · cases h
  · rename_i ds
    cases h
    have hd' := hd
    obtain ⟨a, vs, rfl, s, t⟩ := tup_ok hd
    refine .inr (.inl ⟨a, vs, rfl, s, fun hh => ?_, fun _ => P.tup S (t.cut lo hi)⟩)
    obtain ⟨h1, h2⟩ := hh
    have e : cutD ds lo hi = ds := by
      unfold cutD
      rw [t.length, h1, h2]
      simp only [List.drop_zero]
      exact List.take_of_length_le (by rw [t.length]; exact Nat.le_refl _)
    rw [e] at P
    exact P.here S hd'
  · split at h
    · rename_i ds e
      cases h
      obtain ⟨a, vs, rfl, s, t⟩ := rdlOf_ok S hd e
      exact .inl ⟨a, vs, rfl, s, fun p hp => P.lst S (t.cut lo hi) hp⟩
    · cases h
theorem e_slice {a : Expr} {lo hi : Option Expr} {p2 pos : Pos} {ma : M D} {ml mh : M (Option Int)} (ha : E X EW a ma) (hl : Po X EW lo ml) (hh : Po X EW hi mh) : E X EW (.Subscript a (.Slice lo hi none p2) pos) (xSl oSl ma ml mh) := by
  refine PE.weak (pe_slice (SlR.or sl_list (SlR.or sl_tupP sl_str)) ha hl hh) ?_
  rintro σ H Q ⟨r, e, st, out, st', S, hE, h, P⟩
  refine bnd_step S hE h P fun r1 H1 x d st1 S1 x1 hE1 hd h1 P1 => bnd_step S1 hE1 h1 P1 fun r2 H2 l l' st2 S2 x2 hE2 hl h2 P2 => bnd_step S2 hE2 h2 P2 fun r3 H3 u u' st3 S3 x3 hE3 hu h3 P3 => ?_
  cases hl
  cases hu
  obtain ⟨z, h4, rfl⟩ := ok0_some h3
  exact oSl_ok S3 ((hd.mono x2).mono x3) h4 P3
/-- xs[lo:hi], a list made here -/
def fSl (a : M D) (lo hi : M (Option Int)) : M Ob := xbnd a fun d => xbnd lo fun l => xbnd hi fun u _ st => match rdlOf d st with
  | some ds => some (.ok (.lst (cutD ds l u)), st)
  | none => none
theorem f_slice {a : Expr} {lo hi : Option Expr} {p2 pos : Pos} {ma : M D} {ml mh : M (Option Int)} (ha : E X EW a ma) (hl : Po X EW lo ml) (hh : Po X EW hi mh) : EF X EW (.Subscript a (.Slice lo hi none p2) pos) (fSl ma ml mh) := by
  refine PE.weak (pe_slice sl_list ha hl hh) ?_
  rintro σ H Q ⟨r, e, st, out, st', S, hE, h, P⟩
  refine bnd_stepO S hE h P fun r1 H1 x d st1 S1 x1 hE1 hd h1 => ?_
  have P1 := P.later S S1 x1
  refine bnd_stepO S1 hE1 h1 P1 fun r2 H2 l l' st2 S2 x2 hE2 hl h2 => ?_
  have P2 := P1.later S1 S2 x2
  refine bnd_stepO S2 hE2 h2 P2 fun r3 H3 u u' st3 S3 x3 hE3 hu h3 => ?_
  cases hl
  cases hu
  dsimp only at h3
  split at h3
  · rename_i ds e
    cases h3
    obtain ⟨a, vs, rfl, s, t⟩ := rdlOf_ok S3 ((hd.mono x2).mono x3) e
    exact ⟨a, vs, rfl, s, fun p hp => P2.lay S2 S3 x3 hp ⟨_, rfl, t.cut _ _⟩⟩
  · cases h3
end
end FW

set_option maxHeartbeats 4000000
namespace FW
open PySem L2

/-! ### objects that are changed -/
def mutL (d : D) (st : Store) : Option (Nat × List D) := match d with
  | .ref n => match st[n]? with
    | some (.lst ds) => some (n, ds)
    | _ => none
  | _ => none
def mutD (d : D) (st : Store) : Option (Nat × List D × List D) := match d with
  | .ref n => match st[n]? with
    | some (.dct ks ds) => some (n, ks, ds)
    | _ => none
  | _ => none
section
variable {K : PySem.W.Frag} {r : Ad} {H : Hp} {st : Store} {d : D} {v : V} {ds : List D} {n : Nat}
theorem mutL_ok (S : Sim K r H st) (h : RD K r H d v) (e : mutL d st = some (n, ds)) : ∃ a vs, v = .ref a ∧ r.r[n]? = some a ∧ H a = some (.lst vs) ∧ RDs K r H ds vs := by
  cases d with
  | ref m =>
    unfold mutL at e
    cases q : st[m]? with
    | none => simp only [q] at e; cases e
    | some o =>
      obtain ⟨a, rfl, h1, h2⟩ := S.at_ h q
      simp only [q] at e
      cases o with
      | lst xs => cases e; obtain ⟨vs, e1, t⟩ := h2; exact ⟨a, vs, rfl, h1, e1, t⟩
      | _ => cases e
  | _ => cases e
theorem mutD_ok {ks : List D} (S : Sim K r H st) (h : RD K r H d v) (e : mutD d st = some (n, ks, ds)) : ∃ a kvs, v = .ref a ∧ r.r[n]? = some a ∧ H a = some (.dK kvs) ∧ ks = kvs.map (fun kv => kD kv.1) ∧ RDs K r H ds (kvs.map (·.2)) := by
  cases d with
  | ref m =>
    unfold mutD at e
    cases q : st[m]? with
    | none => simp only [q] at e; cases e
    | some o =>
      obtain ⟨a, rfl, h1, h2⟩ := S.at_ h q
      simp only [q] at e
      cases o with
      | dct xs ys => cases e; obtain ⟨kvs, e1, k, t⟩ := h2; exact ⟨a, kvs, rfl, h1, e1, k, t⟩
      | _ => cases e
  | _ => cases e
theorem Ok.putL {Q : VK} {z : D} {w : V} {ds' : List D} {vs' : List V} {a : Addr} (P : Ok K r H Q z (st.set n (.lst ds'))) (S : Sim K r H st) (hn : r.r[n]? = some a) (q : RDs K r H ds' vs') (hz : RD K r H z w) : Q w (upd H a (.lst vs')) := by
  obtain ⟨S2, x2⟩ := S.put (ob := .lst ds') (o := .lst vs') hn ⟨vs', rfl, q⟩
  exact P r _ _ S2 x2 (hz.mono x2)
theorem Ok.putD {Q : VK} {z : D} {w : V} {ks ds' : List D} {kvs : List (Key × V)} {a : Addr} (P : Ok K r H Q z (st.set n (.dct ks ds'))) (S : Sim K r H st) (hn : r.r[n]? = some a) (hk : ks = kvs.map (fun kv => kD kv.1)) (q : RDs K r H ds' (kvs.map (·.2))) (hz : RD K r H z w) : Q w (upd H a (.dK kvs)) := by
  obtain ⟨S2, x2⟩ := S.put (ob := .dct ks ds') (o := .dK kvs) hn ⟨kvs, rfl, hk, q⟩
  exact P r _ _ S2 x2 (hz.mono x2)
theorem RD.non0 : RD K r H .non .non := by simp only [RD]
theorem RDs.nil_ {vs : List V} (h : RDs K r H [] vs) : vs = [] := by simpa only [RDs] using h
theorem RDs.dropLast {vs : List V} (h : RDs K r H ds vs) : RDs K r H ds.dropLast vs.dropLast := by
  rw [List.dropLast_eq_take, List.dropLast_eq_take, h.length]
  exact h.take _
theorem RDs.erase {vs : List V} (h : RDs K r H ds vs) (i : Nat) : RDs K r H (ds.eraseIdx i) (vs.eraseIdx i) := by
  rw [List.eraseIdx_eq_take_drop_succ, List.eraseIdx_eq_take_drop_succ]
  exact (h.take _).append (h.drop _)
theorem RDs.rev : ∀ {ds : List D} {vs : List V}, RDs K r H ds vs → RDs K r H ds.reverse vs.reverse
  | [], vs, h => by rw [h.nil_]; exact RDs.nil
  | d :: ds, vs, h => by
    simp only [RDs] at h
    obtain ⟨v, r', rfl, h1, h2⟩ := h
    rw [List.reverse_cons, List.reverse_cons]
    exact (RDs.rev h2).append (RDs.cons h1 RDs.nil)
end

/-! ### methods -/
inductive Ty where
  | lst | dct | txt
def Ty.nm : Ty → String
  | .lst => "list"
  | .dct => "dict"
  | .txt => "str"
def tyD (T : Ty) (d : D) (st : Store) : Bool := match T with
  | .txt => match d with
    | .str _ => true
    | _ => false
  | .lst => (rdlOf d st).isSome
  | .dct => match d with
    | .ref n => match st[n]? with
      | some (.dct _ _) => true
      | _ => false
    | _ => false
theorem tyD_ok {K : PySem.W.Frag} {r : Ad} {H : Hp} {st : Store} {d : D} {v : V} {T : Ty} (S : Sim K r H st) (h : RD K r H d v) (e : tyD T d st = true) : tyV K T.nm v H := by
  cases T with
  | txt =>
    cases d with
    | str z => rw [h.str_]; rfl
    | _ => cases e
  | lst =>
    cases q : rdlOf d st with
    | none => unfold tyD at e; rw [q] at e; cases e
    | some ds =>
      obtain ⟨a, vs, rfl, s, _⟩ := rdlOf_ok S h q
      exact .inl ⟨rfl, vs, s⟩
  | dct =>
    cases d with
    | ref n =>
      cases q : st[n]? with
      | none => simp only [tyD, q] at e; cases e
      | some o =>
        obtain ⟨a, rfl, h1, h2⟩ := S.at_ h q
        cases o with
        | dct ks ds => obtain ⟨kvs, e1, _⟩ := h2; exact .inr (.inr (.inl ⟨rfl, .inl ⟨kvs, e1⟩⟩))
        | _ => simp only [tyD, q] at e; cases e
    | _ => simp only [tyD] at e; cases e
abbrev FM := D → List D → Store → Option (D × Store)
def xMeth (T : Ty) (f : FM) (o : M D) (as : M (List D)) : M D := xbnd o fun d e st => if tyD T d st = true then bnd (as e st) fun ds st1 => ok0 (f d ds st1) else none
def MethS (K : PySem.W.Frag) (rr : V → List V → Hp → VK → Prop) (f : FM) : Prop := ∀ r H st d ds x vs z st' Q,
  Sim K r H st → RD K r H d x → RDs K r H ds vs → f d ds st = some (z, st') → Ok K r H Q z st' → rr x vs H Q
section
variable {X : Cx} {EW : EWt}
theorem e_meth {T : Ty} {name : Str} {id : String} {rr : V → List V → Hp → VK → Prop} {f : FM} {o a : Expr} {es : List Expr} {apos cpos : Pos} {mo : M D} {ma : M (List D)} (hm : MtR X id rr) (hf : MethS X.K rr f)
    (pa : PlainAttrs T.nm) (slot : Slot T.nm name id) (hty : typeOf (.builtin id) = pure (.type "method_descriptor")) (ho : E X EW o mo) (ha : As X EW (a :: es) ma)
    (hbase : attributeBase o name X.env (eval o X.env) = eval o X.env := by rfl)
    (hfew : ((backTo cpos (starEach (a :: es) X.env)).all (fun x => !x.1) && (backToKw cpos (keywordEach [] X.env)).all (fun x => x.1.isSome)
      && decide ((a :: es).length + ([] : List Keyword).length + (if ([] : List Keyword).isEmpty then 0 else 1) < 30)) = true := by rfl)
    (hline : (apos.endLine == cpos.line) = true := by rfl) (hs : starEach (a :: es) X.env = (false, eval a X.env) :: starEach es X.env := by rfl) (hplain : (backTo cpos (starEach es X.env)).any (·.1) = false := by rfl) :
    E X EW (.Call (.Attribute o name apos) (a :: es) [] cpos) (xMeth T f mo ma) := by
  refine PE.weak (pe_bm pa slot hty hm ho ha hbase hfew hline hs hplain) ?_
  rintro σ H Q ⟨r, e, st, out, st', S, hE, h, P⟩
  refine bnd_step S hE h P fun r1 H1 x d st1 S1 x1 hE1 hd h1 P1 => ?_
  dsimp only at h1
  split at h1
  · rename_i ht
    refine ⟨tyD_ok S1 hd ht, bnd_step S1 hE1 h1 P1 fun r2 H2 vs ds st2 S2 x2 hE2 hc h2 P2 => ?_⟩
    obtain ⟨z, h3, rfl⟩ := ok0_some h2
    exact hf r2 H2 st2 d ds x vs z st' Q S2 (hd.mono x2) hc h3 P2
  · cases h1
theorem e_meth0 {T : Ty} {name : Str} {id : String} {rr : V → List V → Hp → VK → Prop} {f : FM} {o : Expr} {apos cpos : Pos} {mo : M D} (hm : MtR X id rr) (hf : MethS X.K rr f)
    (pa : PlainAttrs T.nm) (slot : Slot T.nm name id) (hty : typeOf (.builtin id) = pure (.type "method_descriptor")) (ho : E X EW o mo)
    (hbase : attributeBase o name X.env (eval o X.env) = eval o X.env := by rfl) (hline : (apos.endLine == cpos.line) = true := by rfl) :
    E X EW (.Call (.Attribute o name apos) [] [] cpos) (xMeth T f mo aN) := by
  refine PE.weak (pe_bm0 pa slot hty hm ho hbase hline) ?_
  rintro σ H Q ⟨r, e, st, out, st', S, hE, h, P⟩
  refine bnd_step S hE h P fun r1 H1 x d st1 S1 x1 hE1 hd h1 P1 => ?_
  dsimp only at h1
  split at h1
  · rename_i ht
    refine ⟨tyD_ok S1 hd ht, ?_⟩
    obtain ⟨z, h3, rfl⟩ := ok0_some (show ok0 (f d [] st1) = _ from h1)
    exact hf r1 H1 st1 d [] x [] z st' Q S1 hd RDs.nil h3 P1
  · cases h1
end
def mAppend : FM := fun d as st => match mutL d st, as with
  | some (n, ds), [y] => if ds.length < sizeLine then some (.non, st.set n (.lst (ds ++ [y]))) else none
  | _, _ => none
theorem mAppend_ok {K : PySem.W.Frag} : MethS K rAppend mAppend := by
  intro r H st d ds x vs z st' Q S hd hs h P
  unfold mAppend at h
  split at h
  · rename_i n xs y e
    split at h
    · rename_i hl
      cases h
      obtain ⟨a, ws, rfl, hn, s, t⟩ := mutL_ok S hd e
      obtain ⟨w, rfl, hw⟩ := hs.one
      exact ⟨a, ws, w, rfl, rfl, s, by rw [← t.length]; exact hl, P.putL S hn (t.append (RDs.cons hw RDs.nil)) RD.non0⟩
    · cases h
  · cases h
def rExtendT (K : PySem.W.Frag) : V → List V → Hp → VK → Prop := fun x vs H Q => ∃ l b xs zs, x = .ref l ∧ vs = [.ref b] ∧ H l = some (.lst xs) ∧ SqT K H b zs ∧ xs.length + zs.length ≤ sizeLine ∧ Q .non (upd H l (.lst (xs ++ zs)))
open PySem.Spec PyProof.Rows PyProof in
theorem meets_extT (l : Addr) (items : Array Value) (n : Nat) (b : Addr) (items2 : Array Value) (hs0 : ¬(!items.isEmpty && Builtin.List.listTooLong (items.size + items2.size)) = true) (hs1 : items.size ≤ sizeLine) (hs2 : items.size + items2.size ≤ sizeLine + 1) :
    Meets (Builtin.«list.extend» ⟨[.ref l, .ref b], []⟩) (fun _ R s => s.heap.get? l = some { cls := .type "list", dict := none, data := .seq items n, slots := #[] } ∧ IsTup s.heap b items2 ∧ R (.ok (.ret Value.none)) { s with heap := s.heap.update l (Obj.mapSeq fun x => x ++ items2), toks := s.toks }) :=
  .of_wp fun prog w A R s h => by
    obtain ⟨hp, g, d, tk, os⟩ := s
    obtain ⟨hl, ⟨o, hb, hc, n2, hd⟩, h⟩ := h
    obtain ⟨oc, od, oda, os2⟩ := o
    dsimp only at hc hd
    subst hc
    subst hd
    have f1 := AutoSeq1.idx_int; have f2 := AutoSeq1.sub_tuple_tuple; have f3 := AutoSeq1.sub_list_list; have f4 := AutoSeq1.sub_tuple_list; have f5 := AutoSeq1.sub_list_tuple
    have hz' : (items ++ items2).size ≤ sizeLine + 1 := by rw [Array.size_append]; exact hs2
    wp_walk using (wpAny_updateSeq hl rfl (hz := hs1) (_hz' := hz')), AutoSeq1.wpAny_loadPart' hl, AutoSeq1.wpAny_loadPart' hb
    exact ⟨_, rfl, h⟩
theorem mt_extendT {X : Cx} : MtR X "list.extend" (rExtendT X.K) := by
  intro pins s σ H x vs v us Q I rx rv h
  obtain ⟨l, b, xs, zs, rfl, rfl, hH, hB, hz, q⟩ := h
  cases rx
  obtain ⟨u, rfl, ru⟩ := rv.one
  cases ru
  obtain ⟨z, its, n, r, hl, e⟩ := I.lstM hH
  obtain ⟨its2, r2, e2, z2⟩ := I.tuple hB
  have hl2 := r2.length
  have hsz : its.toArray.size + its2.toArray.size ≤ sizeLine := by rw [List.size_toArray, List.size_toArray]; omega
  have hlong : ¬ (!its.toArray.isEmpty && Builtin.List.listTooLong (its.toArray.size + its2.toArray.size)) = true := by
    rw [notLongL hsz, Bool.and_false]
    exact Bool.false_ne_true
  refine PySem.call_meets F.slot_list_extend ⟨_, e, rfl⟩ F.entry_list_extend (F.args_list_extend_2 _ _)
    (meets_extT l its.toArray n b its2.toArray hlong (by rw [List.size_toArray]; omega) (by omega)) ⟨e, e2, ?_⟩
  refine ⟨.non, _, I.lset (its' := its ++ its2) hH e (by simp) (r.append r2) ?_, rfl, q⟩
  rw [List.length_append]
  omega
theorem mt_extendAll {X : Cx} : MtR X "list.extend" (fun x vs H Q => rExtend x vs H Q ∨ rExtendT X.K x vs H Q) := MtR.or mt_extend mt_extendT
theorem mt_popAll {X : Cx} : MtR X "list.pop" (fun x vs H Q => rPop x vs H Q ∨ rPopAt x vs H Q) := MtR.or mt_pop mt_popAt
def mExtend : FM := fun d as st => match mutL d st, as with
  | some (n, ds), [.tup ys] => if ds.length + ys.length ≤ sizeLine then some (.non, st.set n (.lst (ds ++ ys))) else none
  | some (n, ds), [y] => match lstOf y st with
    | some ys => if ds.length + ys.length ≤ sizeLine then some (.non, st.set n (.lst (ds ++ ys))) else none
    | none => none
  | _, _ => none
def rExtendAll (K : PySem.W.Frag) : V → List V → Hp → VK → Prop := fun x vs H Q => rExtend x vs H Q ∨ rExtendT K x vs H Q
theorem mExtend_ok {K : PySem.W.Frag} : MethS K (rExtendAll K) mExtend := by
  intro r H st d ds x vs z st' Q S hd hs h P
  unfold mExtend at h
  split at h
  · rename_i n xs ys e
    split at h
    · rename_i hl
      cases h
      obtain ⟨a, ws, rfl, hn, s, t⟩ := mutL_ok S hd e
      obtain ⟨w, rfl, hw⟩ := hs.one
      obtain ⟨b, us, rfl, s2, t2⟩ := tup_ok hw
      exact .inr ⟨a, b, ws, us, rfl, rfl, s, s2, by rw [← t.length, ← t2.length]; exact hl, P.putL S hn (t.append t2) RD.non0⟩
    · cases h
  · rename_i n xs y _ e
    split at h
    · rename_i ys e2
      split at h
      · rename_i hl
        cases h
        obtain ⟨a, ws, rfl, hn, s, t⟩ := mutL_ok S hd e
        obtain ⟨w, rfl, hw⟩ := hs.one
        obtain ⟨b, us, rfl, s2, t2⟩ := lstOf_ok S hw e2
        exact .inl ⟨a, b, ws, us, rfl, rfl, s, s2, by rw [← t.length, ← t2.length]; exact hl, P.putL S hn (t.append t2) RD.non0⟩
      · cases h
    · cases h
  · cases h
def mPop : FM := fun d as st => match mutL d st, as with
  | some (n, ds), [] => match ds[ds.length - 1]? with
    | some y => some (y, st.set n (.lst ds.dropLast))
    | none => none
  | some (n, ds), [.int i] => if -(2 ^ 63) ≤ i ∧ i < 2 ^ 63 then (match ixN ds.length i with
    | some k => (match ds[k]? with
      | some y => some (y, st.set n (.lst (ds.eraseIdx k)))
      | none => none)
    | none => none) else none
  | _, _ => none
def rPopAll : V → List V → Hp → VK → Prop := fun x vs H Q => rPop x vs H Q ∨ rPopAt x vs H Q
theorem mPop_ok {K : PySem.W.Frag} : MethS K rPopAll mPop := by
  intro r H st d ds x vs z st' Q S hd hs h P
  unfold mPop at h
  split at h
  · rename_i n xs e
    split at h
    · rename_i y e2
      cases h
      obtain ⟨a, ws, rfl, hn, s, t⟩ := mutL_ok S hd e
      cases hs.nil_
      obtain ⟨w, e3, hw⟩ := t.get e2
      exact .inl ⟨a, ws, w, rfl, rfl, s, by rw [← t.length]; exact e3, P.putL S hn t.dropLast hw⟩
    · cases h
  · rename_i n xs i e
    split at h
    · rename_i hi
      split at h
      · rename_i k e2
        split at h
        · rename_i y e3
          cases h
          obtain ⟨a, ws, rfl, hn, s, t⟩ := mutL_ok S hd e
          obtain ⟨w, rfl, hw⟩ := hs.one
          obtain ⟨u, e4, hu⟩ := t.get e3
          obtain ⟨g, _⟩ := ixN_seq e2
          exact .inr ⟨a, ws, i, k, u, rfl, by rw [hw.int_], s, hi.1, hi.2, by rw [← t.length]; exact g, e4, P.putL S hn (t.erase k) hu⟩
        · cases h
      · cases h
    · cases h
  · cases h
def rInsert : V → List V → Hp → VK → Prop := fun x vs H Q => ∃ (l : Addr) (xs : List V) (i : Int) (y : V), x = .ref l ∧ vs = [.int i, y] ∧ H l = some (.lst xs) ∧ xs.length < sizeLine ∧ 0 ≤ i ∧ i < 2 ^ 63 ∧
    Q .non (upd H l (.lst (xs.take i.toNat ++ [y] ++ xs.drop i.toNat)))
def mInsert : FM := fun d as st => match mutL d st, as with
  | some (n, ds), [.int i, y] => if ds.length < sizeLine ∧ 0 ≤ i ∧ i < 2 ^ 63 then some (.non, st.set n (.lst (ds.take i.toNat ++ [y] ++ ds.drop i.toNat))) else none
  | _, _ => none
theorem mInsert_ok {K : PySem.W.Frag} : MethS K rInsert mInsert := by
  intro r H st d ds x vs z st' Q S hd hs h P
  unfold mInsert at h
  split at h
  · rename_i n xs i y e
    split at h
    · rename_i hl
      cases h
      obtain ⟨a, ws, rfl, hn, s, t⟩ := mutL_ok S hd e
      obtain ⟨w, u, rfl, hw, hu⟩ := hs.two
      exact ⟨a, ws, i, u, rfl, by rw [hw.int_], s, by rw [← t.length]; exact hl.1, hl.2.1, hl.2.2, P.putL S hn (((t.take _).append (RDs.cons hu RDs.nil)).append (t.drop _)) RD.non0⟩
    · cases h
  · cases h
def mReverse : FM := fun d as st => match mutL d st, as with
  | some (n, ds), [] => some (.non, st.set n (.lst ds.reverse))
  | _, _ => none
theorem mReverse_ok {K : PySem.W.Frag} : MethS K rReverse mReverse := by
  intro r H st d ds x vs z st' Q S hd hs h P
  unfold mReverse at h
  split at h
  · rename_i n xs e
    cases h
    obtain ⟨a, ws, rfl, hn, s, t⟩ := mutL_ok S hd e
    cases hs.nil_
    exact ⟨a, ws, rfl, rfl, s, P.putL S hn t.rev RD.non0⟩
  · cases h
/-- ints alone -/
def intsD : List D → Option (List Int)
  | [] => some []
  | .int i :: ds => (intsD ds).map (i :: ·)
  | _ => none
theorem intsD_eq : ∀ {ds : List D} {ns : List Int}, intsD ds = some ns → ds = ns.map D.int
  | [], ns, h => by cases h; rfl
  | d :: ds, ns, h => by
    cases d with
    | int i =>
      unfold intsD at h
      cases q : intsD ds with
      | none => rw [q] at h; cases h
      | some ms => rw [q] at h; cases h; rw [intsD_eq q]; rfl
    | _ => cases h
theorem intsD_map (ns : List Int) : intsD (ns.map D.int) = some ns := by
  induction ns with
  | nil => rfl
  | cons n ns ih => simp only [List.map_cons, intsD, ih, Option.map_some]
/-- ints, from the smallest -/
def srtI (ns : List Int) : List Int := ns.mergeSort (fun a b => decide (a ≤ b))
theorem srtI_perm (ns : List Int) : (srtI ns).Perm ns := List.mergeSort_perm _ _
theorem srtI_sorted (ns : List Int) : (srtI ns).Pairwise (· ≤ ·) := by
  have h := List.pairwise_mergeSort (le := fun (a b : Int) => decide (a ≤ b)) (fun a b c h1 h2 => by simp only [decide_eq_true_eq] at *; omega) (fun a b => by simp only [Bool.or_eq_true, decide_eq_true_eq]; omega) ns
  exact h.imp fun h => by simpa using h
theorem srtI_only {ns ms : List Int} (h1 : ms.Perm ns) (h2 : ms.Pairwise (· ≤ ·)) : ms = srtI ns :=
  List.Perm.eq_of_pairwise (fun a b _ _ h3 h4 => Int.le_antisymm h3 h4) h2 (srtI_sorted ns) (h1.trans (srtI_perm ns).symm)
def mSort : FM := fun d as st => match mutL d st, as with
  | some (n, ds), [] => match intsD ds with
    | some ns => some (.non, st.set n (.lst ((srtI ns).map D.int)))
    | none => none
  | _, _ => none
theorem mSort_ok {K : PySem.W.Frag} : MethS K rSortI mSort := by
  intro r H st d ds x vs z st' Q S hd hs h P
  unfold mSort at h
  split at h
  · rename_i n xs e
    split at h
    · rename_i ns e2
      cases h
      obtain ⟨a, ws, rfl, hn, s, t⟩ := mutL_ok S hd e
      cases hs.nil_
      rw [intsD_eq e2] at t
      rw [t.ints] at s
      refine ⟨a, ns, rfl, rfl, s, fun ns' h1 h2 => ?_⟩
      rw [srtI_only h1 h2]
      exact P.putL S hn (RDs.ofInts _) RD.non0
    · cases h
  · cases h
end FW

set_option maxHeartbeats 4000000
namespace FW
open PySem L2

/-! ### calls -/
section
variable {K : PySem.W.Frag}
def fLen : Fn0 := fun as st => match as with
  | [.str z] => if z.length ≤ sizeLine then some (.int z.length, st) else none
  | [d] => match seqOf d st with
    | some ds => some (.int ds.length, st)
    | none => match dctOf d st with
      | some p => some (.int p.1.length, st)
      | none => none
  | _ => none
def rLenAll (K : PySem.W.Frag) : List V → Hp → VK → Prop := fun xs H Q => (∃ x n, xs = [x] ∧ LenV K x H n ∧ Q (.int n) H) ∨ ∃ a kvs, xs = [V.ref a] ∧ Rd H a (.dK kvs) ∧ Q (.int kvs.length) H
theorem call_lenDR {X : Cx} : CallR X (.builtin "len") (fun xs H Q => ∃ a kvs, xs = [V.ref a] ∧ Rd H a (.dK kvs) ∧ Q (.int kvs.length) H) := by
  intro pins s σ H xs us Q I r h
  obtain ⟨a, kvs, rfl, ha, q⟩ := h
  obtain ⟨u, rfl, ru⟩ := vals1 r
  cases ru
  exact d_len I ha fun t s' I' => ⟨.int kvs.length, H, I', ⟨t, rfl⟩, q⟩
theorem cr_lenAll {X : Cx} : CallR X (.builtin "len") (rLenAll X.K) := CallR.or call_len call_lenDR
theorem fLen_ok : CallS K (rLenAll K) fLen := by
  intro r H st ds vs z st' Q S hs h P
  unfold fLen at h
  split at h
  · split at h
    · cases h
      obtain ⟨v, rfl, hv⟩ := hs.one
      exact .inl ⟨_, _, rfl, by rw [hv.str_]; exact ⟨by assumption, rfl⟩, P.int S⟩
    · cases h
  · rename_i d _
    obtain ⟨v, rfl, hv⟩ := hs.one
    split at h
    · rename_i xs e
      cases h
      obtain ⟨a, ws, rfl, s, t⟩ := seqOf_ok S hv e
      refine .inl ⟨_, ws.length, rfl, ?_, by rw [← t.length]; exact P.int S⟩
      rcases s with s | s
      · exact .inl ⟨ws, s, rfl⟩
      · exact .inr ⟨ws, s, rfl⟩
    · split at h
      · rename_i p e
        obtain ⟨ks, xs⟩ := p
        cases h
        obtain ⟨a, kvs, rfl, s, k, t⟩ := dctOf_ok S hv e
        refine .inr ⟨a, kvs, rfl, s, ?_⟩
        have e2 : ks.length = kvs.length := by rw [k, List.length_map]
        rw [← e2]
        exact P.int S
      · cases h
  · cases h
def rAbs : List V → Hp → VK → Prop := fun xs H Q => ∃ i, xs = [.int i] ∧ Q (.int (if i < 0 then -i else i)) H
def fAbs : Fn0 := fun as st => match as with
  | [.int i] => some (.int (if i < 0 then -i else i), st)
  | _ => none
theorem fAbs_ok : CallS K rAbs fAbs := by
  intro r H st ds vs z st' Q S hs h P
  unfold fAbs at h
  split at h
  · cases h
    obtain ⟨v, rfl, hv⟩ := hs.one
    exact ⟨_, by rw [hv.int_], P.int S⟩
  · cases h
def rInt : List V → Hp → VK → Prop := fun xs H Q => (∃ i, xs = [.int i] ∧ Q (.int i) H) ∨ ∃ k, xs = [.bl k] ∧ Q (.int (if k then 1 else 0)) H
def fInt : Fn0 := fun as st => match as with
  | [.int i] => some (.int i, st)
  | [.bl b] => some (.int (if b then 1 else 0), st)
  | _ => none
theorem fInt_ok : CallS K rInt fInt := by
  intro r H st ds vs z st' Q S hs h P
  unfold fInt at h
  split at h
  · cases h
    obtain ⟨v, rfl, hv⟩ := hs.one
    exact .inl ⟨_, by rw [hv.int_], P.int S⟩
  · cases h
    obtain ⟨v, rfl, hv⟩ := hs.one
    exact .inr ⟨_, by rw [hv.bl_], P.int S⟩
  · cases h
def fMaxM (c : Int → Int → Bool) : Fn0 := fun as st => match as with
  | [.int i, .int j] => some (.int (if c j i = true then j else i), st)
  | _ => none
def rMax2 : List V → Hp → VK → Prop := fun xs H Q => ∃ i j, xs = [.int i, .int j] ∧ Q (.int (if j > i then j else i)) H
def rMin2 : List V → Hp → VK → Prop := fun xs H Q => ∃ i j, xs = [.int i, .int j] ∧ Q (.int (if j < i then j else i)) H
abbrev fMax2 : Fn0 := fMaxM fun j i => decide (j > i)
abbrev fMin2 : Fn0 := fMaxM fun j i => decide (j < i)
theorem fMax2_ok : CallS K rMax2 fMax2 := by
  intro r H st ds vs z st' Q S hs h P
  unfold fMax2 fMaxM at h
  split at h
  · rename_i i j
    cases h
    obtain ⟨v, w, rfl, hv, hw⟩ := hs.two
    refine ⟨i, j, by rw [hv.int_, hw.int_], ?_⟩
    simp only [decide_eq_true_eq] at P
    exact P.int S
  · cases h
theorem fMin2_ok : CallS K rMin2 fMin2 := by
  intro r H st ds vs z st' Q S hs h P
  unfold fMin2 fMaxM at h
  split at h
  · rename_i i j
    cases h
    obtain ⟨v, w, rfl, hv, hw⟩ := hs.two
    refine ⟨i, j, by rw [hv.int_, hw.int_], ?_⟩
    simp only [decide_eq_true_eq] at P
    exact P.int S
  · cases h
/-- a list of ints that is read -/
def rdI (d : D) (st : Store) : Option (List Int) := match rdlOf d st with
  | some ds => intsD ds
  | none => none
theorem rdI_ok {r : Ad} {H : Hp} {st : Store} {d : D} {v : V} {ns : List Int} (S : Sim K r H st) (h : RD K r H d v) (e : rdI d st = some ns) : ∃ a, v = .ref a ∧ SqL K H a (ns.map V.int) := by
  unfold rdI at e
  split at e
  · rename_i ds e2
    obtain ⟨a, vs, rfl, s, t⟩ := rdlOf_ok S h e2
    rw [intsD_eq e] at t
    rw [t.ints] at s
    exact ⟨a, rfl, s⟩
  · cases e
def fSum : Fn0 := fun as st => match as with
  | [d] => match rdI d st with
    | some ns => some (.int ns.sum, st)
    | none => none
  | _ => none
theorem fSum_ok : CallS K (rSum K) fSum := by
  intro r H st ds vs z st' Q S hs h P
  unfold fSum at h
  split at h
  · obtain ⟨v, rfl, hv⟩ := hs.one
    split at h
    · rename_i ns e
      cases h
      obtain ⟨a, rfl, s⟩ := rdI_ok S hv e
      exact ⟨a, ns, rfl, s, P.int S⟩
    · cases h
  · cases h
/-- truths alone -/
def blsD : List D → Option (List Bool)
  | [] => some []
  | .bl i :: ds => (blsD ds).map (i :: ·)
  | _ => none
theorem blsD_ok {r : Ad} {H : Hp} : ∀ {ds : List D} {ns : List Bool} {vs : List V}, blsD ds = some ns → RDs K r H ds vs → vs = ns.map V.bl
  | [], ns, vs, h, q => by cases h; rw [q.nil_]; rfl
  | d :: ds, ns, vs, h, q => by
    cases d with
    | bl i =>
      unfold blsD at h
      simp only [RDs] at q
      obtain ⟨v, r', rfl, h1, h2⟩ := q
      cases q : blsD ds with
      | none => rw [q] at h; cases h
      | some ms => rw [q] at h; cases h; rw [h1.bl_, blsD_ok q h2]; rfl
    | _ => cases h
def fTuple : Fn0 := fun as st => match as with
  | [.tup ds] => some (.tup ds, st)
  | [d] => match rdlOf d st with
    | some ds => some (.tup ds, st)
    | none => none
  | _ => none
theorem fTuple_ok : CallS K (rTupleP K) fTuple := by
  intro r H st ds vs z st' Q S hs h P
  unfold fTuple at h
  split at h
  · cases h
    obtain ⟨v, rfl, hv⟩ := hs.one
    have hv' := hv
    obtain ⟨a, ws, rfl, s, t⟩ := tup_ok hv
    exact ⟨a, ws, rfl, .inr ⟨s, P.here S hv'⟩⟩
  · obtain ⟨v, rfl, hv⟩ := hs.one
    split at h
    · rename_i xs e
      cases h
      obtain ⟨a, ws, rfl, s, t⟩ := rdlOf_ok S hv e
      exact ⟨a, ws, rfl, .inl ⟨s, P.tup S t⟩⟩
    · cases h
  · cases h
def rListAll (K : PySem.W.Frag) : List V → Hp → VK → Prop := fun xs H Q => ∃ p ys, xs = [.ref p] ∧ (SqL K H p ys ∨ SqT K H p ys) ∧ ∀ l, H l = none → Q (.ref l) (upd H l (.lst ys))
/-- a thing made by a call -/
abbrev Fo0 := List D → Store → Option Ob
def oList : Fo0 := fun as st => match as with
  | [d] => match seqOf d st with
    | some ds => some (.lst ds)
    | none => none
  | _ => none
def rSortDI : List V → Hp → VK → Prop := fun xs H Q => ∃ (a : Addr) (kvs : List (Key × V)) (ks : List Int), xs = [.ref a] ∧ Rd H a (.dK kvs) ∧ kvs.map (·.1) = ks.map Sum.inl ∧ ks.length < 64 ∧
    ∀ (ys : List Int) (p : Addr), ys.Perm ks → ys.Pairwise (· ≤ ·) → H p = none → Q (.ref p) (upd H p (.lst (ys.map V.int)))
/-- what is made by a call: the rule -/
def FoS (K : PySem.W.Frag) (rr : List V → Hp → VK → Prop) (F : Fo0) : Prop := ∀ r H st ds vs ob Q,
  Sim K r H st → RDs K r H ds vs → F ds st = some ob → (∀ p o, H p = none → RO K r H ob (some o) → Q (.ref p) (upd H p o)) → rr vs H Q
theorem oList_ok : FoS K (rListAll K) oList := by
  intro r H st ds vs ob Q S hs h P
  unfold oList at h
  split at h
  · obtain ⟨v, rfl, hv⟩ := hs.one
    split at h
    · rename_i xs e
      cases h
      obtain ⟨a, ws, rfl, s, t⟩ := seqOf_ok S hv e
      exact ⟨a, ws, rfl, s, fun p hp => P p _ hp ⟨ws, rfl, t⟩⟩
    · cases h
  · cases h
def oSorted : Fo0 := fun as st => match as with
  | [d] => match rdI d st with
    | some ns => some (.lst ((srtI ns).map D.int))
    | none => none
  | _ => none
theorem oSorted_ok : FoS K (rSortedI K) oSorted := by
  intro r H st ds vs ob Q S hs h P
  unfold oSorted at h
  split at h
  · obtain ⟨v, rfl, hv⟩ := hs.one
    split at h
    · rename_i ns e
      cases h
      obtain ⟨a, rfl, s⟩ := rdI_ok S hv e
      refine ⟨a, ns, rfl, s, fun ns' p h1 h2 hp => ?_⟩
      rw [srtI_only h1 h2]
      exact P p _ hp ⟨_, rfl, RDs.ofInts _⟩
    · cases h
  · cases h
end
/-- a call that makes a thing: a function | a type -/
def fCall (F : Fo0) (as : M (List D)) : M Ob := xbnd as fun ds _ st => match F ds st with
  | some ob => some (.ok ob, st)
  | none => none
section
variable {X : Cx} {EW : EWt}
theorem fcall_weak {rr : List V → Hp → VK → Prop} {F : Fo0} {ms : M (List D)} {σ : L2.St} {H : Hp} {Q : VK} (hf : FoS X.K rr F) (h : tF X.K EW (fCall F ms) σ H Q) : tA X.K EW ms σ H fun vs H1 => rr vs H1 Q := by
  obtain ⟨r, e, st, out, st', S, hE, h, P⟩ := h
  refine bnd_stepO S hE h P fun r1 H1 vs ds st1 S1 x1 hE1 hd h1 => ?_
  dsimp only at h1
  split at h1
  · rename_i ob e
    cases h1
    exact hf r1 H1 _ ds vs ob Q S1 hd e fun p o hp q => P.lay S S1 x1 hp q
  · cases h1
/-- what a call of a builtin makes -/
theorem f_bf {x : Str} {p pos : Pos} {a : Expr} {es : List Expr} {id : String} {rr : List V → Hp → VK → Prop} {F : Fo0} {ms : M (List D)} (hc : CallR X (.builtin id) rr) (hf : FoS X.K rr F) (hg : Gl X x) (hm : X.mg x = none) (hv : bootBuiltins x = some (.builtin id)) (ha : As X EW (a :: es) ms)
    (hn : x ≠ "__name__" := by decide) (hdb : (x == ("__debug__" : Str)) = false := by decide) (he : starEach (a :: es) X.env = (false, eval a X.env) :: starEach es X.env := by rfl) (hpl : (backTo pos (starEach es X.env)).any (·.1) = false := by rfl) : EF X EW (.Call (.Name x p) (a :: es) [] pos) (fCall F ms) :=
  PE.weak (pe_callB hc hg hm hv ha hn hdb he hpl) fun _ _ _ h => fcall_weak hf h
theorem f_ty {x : Str} {p pos : Pos} {a : Expr} {es : List Expr} {Ty : String} {rr : List V → Hp → VK → Prop} {F : Fo0} {ms : M (List D)} (hc : CallR X (.type Ty) rr) (hf : FoS X.K rr F) (hg : Gl X x) (hm : X.mg x = none) (hv : bootBuiltins x = some (.type Ty)) (ha : As X EW (a :: es) ms)
    (hn : x ≠ "__name__" := by decide) (hdb : (x == ("__debug__" : Str)) = false := by decide) (he : starEach (a :: es) X.env = (false, eval a X.env) :: starEach es X.env := by rfl) (hpl : (backTo pos (starEach es X.env)).any (·.1) = false := by rfl) : EF X EW (.Call (.Name x p) (a :: es) [] pos) (fCall F ms) :=
  PE.weak (pe_callTy hc hg hm hv ha hn hdb he hpl) fun _ _ _ h => fcall_weak hf h
end
/-! ### sorted: a list of ints, a dict with keys that are ints -/
def keysI : List D → Option (List Int) := intsD
def rSortD : List V → Hp → VK → Prop := fun xs H Q => ∃ (a : Addr) (kvs : List (Key × V)) (ks : List Int), xs = [.ref a] ∧ Rd H a (.dK kvs) ∧ kvs.map (fun kv => kv.1) = ks.map Sum.inl ∧
    ∀ (ys : List Int) (p : Addr), ys.Perm ks → ys.Pairwise (· ≤ ·) → H p = none → Q (.ref p) (upd H p (.lst (ys.map V.int)))
open PyProof.Rows in
theorem cr_sortD {X : Cx} (calm : X.calm = true) : CallR X (.builtin "sorted") rSortD := by
  intro pins s σ H vs us Q I rel hh
  rcases hh with ⟨a, kvs, ks, rfl, hd, hks, q⟩
  rw [Vals.ref1 rel]
  rcases dk_rd I.hok hd with ⟨small, lo, vs, rl, dd⟩
  rcases dd.dictAt with ⟨ep, at_⟩
  have e0 : vs.map (·.1) = ks.map Sum.inl := rl.keys.symm.trans hks
  have e1 : vs.length = ks.length := by simpa using congrArg List.length e0
  have e2 : kvs.length = ks.length := by simpa using congrArg List.length hks
  have e3 : ks.length ≤ sizeLine := by rw [← e2]; exact small
  apply Calls.call_function_entry kind_sorted plain_sorted entry_sorted (args_sorted1 _)
  unfold Builtin.«sorted»
  apply wpAny_bind (m := checkCount "sorted" 1 1 _)
  apply wpAny_pure
  apply wpAny_bind
  apply PySem.W.kdu_collect (A := X.A.in1) (PySem.W.kdl_dict (knd := mixKind X.prog X.w) (kvs := vs) (ep := ep) lo) (I.ok.hd calm) at_ (by rw [e1]; exact e3)
  intro h1 tk acc keep got
  have e4 : acc.toList.length = ks.length := by rw [Array.length_toList, got.1, e1]
  have hint : IntsAre acc.toList ks := by
    refine ints_each e4 fun j u eu => ?_
    rcases got.2 j u (by simpa using eu) with ⟨k, y, g1, g2⟩
    have g3 : (ks.map Sum.inl)[j]? = some k := by rw [← e0, List.getElem?_map, g1]; rfl
    rw [List.getElem?_map] at g3
    rcases hz : ks[j]? with _ | z
    · rw [hz] at g3; simp at g3
    · rw [hz] at g3
      simp only [Option.map_some, Option.some.injEq] at g3
      subst g3
      rcases keyIs_shape (show keyIs (Sum.inl z) u = true from g2) with ⟨i, t, ek, ev⟩ | ⟨w, t, ek, ev⟩
      · injection ek with ek; subst ek; exact ⟨z, t, rfl, ev⟩
      · exact nomatch ek
  have J : Inv X pins σ H { s with heap := h1, toks := tk } := I.kept keep
  apply wpAny_bind
  refine wpAny_newList ?_ (by rw [e4]; exact e3)
  have stands : (h1.push (seqObj "list" acc.toList.toArray 0)).get? h1.objs.size = some (seqObj "list" acc.toList.toArray 0) := Heap.get?_push_size _ rfl
  show wpAny _ _ _ _ _ { s with heap := h1.push (seqObj "list" acc.toList.toArray 0), toks := tk }
  refine wpAny_bind (wpAny_holding (wpAny_call_entry slot_list_sort ⟨_, stands, rfl⟩ entry_list_sort
    (SrtO.list_sort_ord (s := { s with heap := h1.push (seqObj "list" acc.toList.toArray 0), toks := tk }) SrtO.swo_int stands (by rw [e4]; exact e3) (fun h2 => SrtO.ints_sortable hint h2) fun out o1 o2 => ⟨_, rfl, ?_⟩) (args_list_sort _)))
  rcases SrtO.ints_out hint o1 o2 with ⟨k1, k2, k3⟩
  rcases sortedHeap_at (vs := acc.toList) (out := out.toArray) stands with ⟨ep2, at2⟩
  have fits : ((out.map SrtO.iv).map V.int).length ≤ sizeLine := by rw [List.length_map, k2.length_eq]; exact e3
  have laid := J.laid (a := h1.objs.size) (o := .lst ((out.map SrtO.iv).map V.int)) (h' := sortedHeap (h1.push (seqObj "list" acc.toList.toArray 0)) h1.objs.size acc.toList out.toArray) (t' := tk) (fun b u eb => by
    have lt := Heap.lt_size eb
    rw [sortedHeap_old (Nat.ne_of_lt lt) (by rw [size_push']; exact Nat.lt_succ_of_lt lt)]
    exact Heap.get?_push_of_some _ eb) (Nat.le_refl _) ⟨fits, out, ep2, vals_of_ints k1, at2⟩
  exact wpAny_pure ⟨_, rfl, .ref h1.objs.size, _, laid, rfl, q _ _ k2 k3 (J.hok.fresh (Nat.le_refl _))⟩
def oSortedAll : Fo0 := fun as st => match as with
  | [d] => match rdI d st with
    | some ns => some (.lst ((srtI ns).map D.int))
    | none => match dctOf d st with
      | some p => match intsD p.1 with
        | some ns => some (.lst ((srtI ns).map D.int))
        | none => none
      | none => none
  | _ => none
def rSortAll (K : PySem.W.Frag) : List V → Hp → VK → Prop := fun xs H Q => rSortedI K xs H Q ∨ rSortD xs H Q
theorem cr_sortAll {X : Cx} (calm : X.calm = true) : CallR X (.builtin "sorted") (rSortAll X.K) := CallR.or cr_sortedI (cr_sortD calm)
theorem kD_ints : ∀ {kvs : List (Key × V)} {ns : List Int}, kvs.map (fun kv => kD kv.1) = ns.map D.int → kvs.map (fun kv => kv.1) = ns.map Sum.inl
  | [], [], _ => rfl
  | [], _ :: _, h => by cases h
  | _ :: _, [], h => by cases h
  | (k, v) :: kvs, n :: ns, h => by
    simp only [List.map_cons, List.cons.injEq] at h ⊢
    refine ⟨?_, kD_ints h.2⟩
    cases k with
    | inl i => have e := h.1; simp only [kD] at e; cases e; rfl
    | inr i => have e := h.1; simp only [kD] at e; cases e
theorem oSortedAll_ok {K : PySem.W.Frag} : FoS K (rSortAll K) oSortedAll := by
  intro r H st ds vs ob Q S hs h P
  unfold oSortedAll at h
  split at h
  · rename_i d
    obtain ⟨v, rfl, hv⟩ := hs.one
    split at h
    · rename_i ns e
      exact .inl (oSorted_ok r H st [d] [v] ob Q S hs (by unfold oSorted; simp only [e]; exact h) P)
    · split at h
      · rename_i p e
        obtain ⟨ks, xs⟩ := p
        split at h
        · rename_i ns e2
          cases h
          obtain ⟨a, kvs, rfl, s, k, t⟩ := dctOf_ok S hv e
          have e3 := intsD_eq e2
          refine .inr ⟨a, kvs, ns, rfl, s, kD_ints (by rw [← k]; exact e3), fun ys p h1 h2 hp => ?_⟩
          rw [srtI_only h1 h2]
          exact P p _ hp ⟨_, rfl, RDs.ofInts _⟩
        · cases h
      · cases h
  · cases h
/-! ### repr of data -/
def rReprD (K : PySem.W.Frag) : List V → Hp → VK → Prop := fun xs H Q => ∃ a d, xs = [.ref a] ∧ Dp K H (.ref a) d ∧ d.showable = true ∧ d.hasDict = false ∧ d.depth ≤ 64 ∧ d.shown.length ≤ sizeLine ∧ Q (.str d.shown) H
open PyProof.Rows PyProof in
theorem cr_reprD {X : Cx} (hg : X.A.guards = some []) (hu : X.A.units + 66 < cLine) : CallR X (.builtin "repr") (rReprD X.K) := by
  intro pins s σ H vs us Q I rel hh
  rcases hh with ⟨a, d, rfl, dp, h1, h2, h3, h4, q⟩
  rw [Vals.ref1 rel]
  rcases Dp.reads I d (.ref a) (.ref a) dp rfl with ⟨as, rd⟩
  exact repr_of_reads' rd h1 (PyData.noDict_hsm h2) hg (by omega) (fun _ _ e => e) (fun h' u tk keep => ⟨.str d.shown, H, I.kept keep, ⟨u, rfl⟩, q⟩) h4
mutual
theorem PD.noDict {st : Store} : ∀ {d : D} {p : PyData}, PD st d p → p.hasDict = false
  | _, _, .non => by simp only [PyData.hasDict]
  | _, _, .bl _ => by simp only [PyData.hasDict]
  | _, _, .int _ => by simp only [PyData.hasDict]
  | _, _, .str _ => by simp only [PyData.hasDict]
  | _, _, .tup h => by simp only [PyData.hasDict]; exact PDs.noDict h
  | _, _, .lst h => by simp only [PyData.hasDict]; exact PDs.noDict h
  | _, _, .ref _ h => by simp only [PyData.hasDict]; exact PDs.noDict h
  | _, _, .fref _ h => by simp only [PyData.hasDict]; exact PDs.noDict h
theorem PDs.noDict {st : Store} : ∀ {d : List D} {p : List PyData}, PDs st d p → PyData.hasDictAll p = false
  | _, _, .nil => by simp only [PyData.hasDictAll]
  | _, _, .cons h t => by simp only [PyData.hasDictAll, PD.noDict h, PDs.noDict t, Bool.or_self]
end
def shows (p : PyData) : Prop := p.showable = true ∧ p.depth ≤ 64 ∧ p.shown.length ≤ sizeLine
open Classical in
noncomputable def fRepr : Fn0 := fun as st => match as with
  | [.int i] => if i.natAbs.log2 < 1920 then some (.str (toString i), st) else none
  | [d] => if h : (∃ ds, seqOf d st = some ds) ∧ ∃ p, PD st d p ∧ shows p then some (.str (Classical.choose h.2).shown, st) else none
  | _ => none
def rReprAll (K : PySem.W.Frag) : List V → Hp → VK → Prop := fun xs H Q => (∃ i, xs = [.int i] ∧ i.natAbs.log2 < 1920 ∧ Q (.str (toString i)) H) ∨ rReprD K xs H Q
theorem cr_reprAll {X : Cx} (hg : X.A.guards = some []) (hu : X.A.units + 66 < cLine) : CallR X (.builtin "repr") (rReprAll X.K) := CallR.or SkE.call_repr_int (cr_reprD hg hu)
theorem fRepr_of {d : D} {st : Store} {p : PyData} {ds : List D} (hp : PD st d p) (hs : shows p) (hq : seqOf d st = some ds) : fRepr [d] st = some (.str p.shown, st) := by
  have e : (∃ ds, seqOf d st = some ds) ∧ ∃ p, PD st d p ∧ shows p := ⟨⟨ds, hq⟩, p, hp, hs⟩
  have e2 : Classical.choose e.2 = p := (Classical.choose_spec e.2).1.det hp
  cases d with
  | int i => cases hq
  | _ => unfold fRepr; simp only [dif_pos e, e2]
theorem fRepr_ok {K : PySem.W.Frag} : CallS K (rReprAll K) fRepr := by
  intro r H st ds vs z st' Q S hs h P
  unfold fRepr at h
  split at h
  · split at h
    · rename_i i hi
      cases h
      obtain ⟨v, rfl, hv⟩ := hs.one
      exact .inl ⟨i, by rw [hv.int_], hi, P.str S⟩
    · cases h
  · rename_i d _
    split at h
    · rename_i e
      cases h
      obtain ⟨v, rfl, hv⟩ := hs.one
      have e3 := Classical.choose_spec e.2
      obtain ⟨⟨xs, e1⟩, _⟩ := e
      obtain ⟨a, ws, rfl, _⟩ := seqOf_ok S hv e1
      exact .inr ⟨a, _, rfl, e3.1.dp S hv, e3.2.1, e3.1.noDict, e3.2.2.1, e3.2.2.2, P.str S⟩
    · cases h
  · cases h
end FW

set_option maxHeartbeats 4000000
namespace FW
open PySem L2

/-! ### what is walked: numbers, pairs -/
def rngD (lo : Int) (n : Nat) : List D := (List.range n).map fun (i : Nat) => D.int (lo + i)
def rngC (lo c : Int) (n : Nat) : List D := (List.range n).map fun (i : Nat) => D.int (lo + i * c)
theorem rngD_get {lo : Int} {n i : Nat} {d : D} (h : (rngD lo n)[i]? = some d) : i < n ∧ d = .int (lo + i) := by
  unfold rngD at h
  rw [List.getElem?_map] at h
  cases q : (List.range n)[i]? with
  | none => rw [q] at h; cases h
  | some j =>
    rw [q] at h
    obtain ⟨h1, h2⟩ := List.getElem?_eq_some_iff.mp q
    simp only [List.length_range] at h1
    simp only [List.getElem_range] at h2
    subst h2
    cases h
    exact ⟨h1, rfl⟩
theorem rngC_get {lo c : Int} {n i : Nat} {d : D} (h : (rngC lo c n)[i]? = some d) : i < n ∧ d = .int (lo + i * c) := by
  unfold rngC at h
  rw [List.getElem?_map] at h
  cases q : (List.range n)[i]? with
  | none => rw [q] at h; cases h
  | some j =>
    rw [q] at h
    obtain ⟨h1, h2⟩ := List.getElem?_eq_some_iff.mp q
    simp only [List.length_range] at h1
    simp only [List.getElem_range] at h2
    subst h2
    cases h
    exact ⟨h1, rfl⟩
theorem itOk_rng {K : PySem.W.Frag} {r : Ad} {H : Hp} {lo : Int} {n : Nat} : ItOk K r H ⟨rngD lo n, []⟩ (Itr lo n) := by
  intro r1 H1 st1 S t hh
  refine ⟨fun i hi => show n ≤ i by simpa [rngD] using hi, fun i d hd => ?_⟩
  obtain ⟨h1, rfl⟩ := rngD_get hd
  refine ⟨h1, fun x H2 hy => ?_⟩
  obtain ⟨rfl, rfl⟩ := hy
  exact ⟨S, Ext.refl _ _ _, by simp only [RD]⟩
theorem itOk_rngC {K : PySem.W.Frag} {r : Ad} {H : Hp} {lo c : Int} {n : Nat} : ItOk K r H ⟨rngC lo c n, []⟩ (Itc lo c n) := by
  intro r1 H1 st1 S t hh
  refine ⟨fun i hi => show n ≤ i by simpa [rngC] using hi, fun i d hd => ?_⟩
  obtain ⟨h1, rfl⟩ := rngC_get hd
  refine ⟨h1, fun x H2 hy => ?_⟩
  obtain ⟨rfl, rfl⟩ := hy
  exact ⟨S, Ext.refl _ _ _, by simp only [RD]⟩
def i62 (i : Int) : Bool := decide (-(2 ^ 62) ≤ i) && decide (i < 2 ^ 62)
theorem i62_ok {i : Int} (h : i62 i = true) : -(2 ^ 62) ≤ i ∧ i < 2 ^ 62 := by
  unfold i62 at h
  rw [Bool.and_eq_true, decide_eq_true_eq, decide_eq_true_eq] at h
  exact h
/-- what is walked, by values -/
abbrev FI := List D → Store → Option Itm
def iOf (f : FI) (m : M (List D)) : M Itm := xbnd m fun ds _ st => match f ds st with
  | some i => some (.ok i, st)
  | none => none
def ItS (K : PySem.W.Frag) (rr : List V → Hp → (L2.It → Hp → Prop) → Prop) (f : FI) : Prop := ∀ r H st ds vs it Q,
  Sim K r H st → RDs K r H ds vs → f ds st = some it → (∀ J, ItOk K r H it J → Q J H) → rr vs H Q
theorem iOf_weak {K : PySem.W.Frag} {EW : EWt} {rr : List V → Hp → (L2.It → Hp → Prop) → Prop} {f : FI} {m : M (List D)} {σ : L2.St} {H : Hp} {Q : L2.It → Hp → Prop} (hf : ItS K rr f) (h : tI K EW (iOf f m) σ H Q) : tA K EW m σ H fun vs H1 => rr vs H1 Q := by
  obtain ⟨r, e, st, out, st', S, hE, h, P⟩ := h
  refine bnd_stepI S hE h P fun r1 H1 vs ds st1 S1 x1 hE1 hd h1 => ?_
  dsimp only at h1
  split at h1
  · rename_i it q
    cases h1
    exact hf r1 H1 _ ds vs it Q S1 hd q fun J hJ => P r1 H1 J S1 x1 hJ
  · cases h1
def rng1 : FI := fun ds _ => match ds with
  | [.int j] => if i62 j = true then some ⟨rngD 0 j.toNat, []⟩ else none
  | _ => none
def rng2 : FI := fun ds _ => match ds with
  | [.int i, .int j] => if (i62 i && i62 j) = true then some ⟨rngD i (j - i).toNat, []⟩ else none
  | _ => none
open Classical in
noncomputable def rng3 : FI := fun ds _ => match ds with
  | [.int i, .int j, .int c] => if RgC i j c (Builtin.Range.rangeSize i j c).toNat then some ⟨rngC i c (Builtin.Range.rangeSize i j c).toNat, []⟩ else none
  | _ => none
section
variable {K : PySem.W.Frag}
theorem rng1_ok : ItS K (fun vs H R => ∃ j : Int, vs = [.int j] ∧ -(2 ^ 62) ≤ j ∧ j < 2 ^ 62 ∧ R (Itr 0 j.toNat) H) rng1 := by
  intro r H st ds vs it Q S hd h P
  unfold rng1 at h
  split at h
  · split at h
    · rename_i j h2
      cases h
      obtain ⟨v, rfl, hv⟩ := hd.one
      exact ⟨j, by rw [hv.int_], (i62_ok h2).1, (i62_ok h2).2, P _ itOk_rng⟩
    · cases h
  · cases h
theorem rng2_ok : ItS K (fun vs H R => ∃ i j : Int, vs = [.int i, .int j] ∧ (-(2 ^ 62) ≤ i ∧ i < 2 ^ 62 ∧ -(2 ^ 62) ≤ j ∧ j < 2 ^ 62) ∧ R (Itr i (j - i).toNat) H) rng2 := by
  intro r H st ds vs it Q S hd h P
  unfold rng2 at h
  split at h
  · split at h
    · rename_i i j h2
      cases h
      rw [Bool.and_eq_true] at h2
      obtain ⟨v, w, rfl, hv, hw⟩ := hd.two
      exact ⟨i, j, by rw [hv.int_, hw.int_], ⟨(i62_ok h2.1).1, (i62_ok h2.1).2, (i62_ok h2.2).1, (i62_ok h2.2).2⟩, P _ itOk_rng⟩
    · cases h
  · cases h
theorem rng3_ok : ItS K (fun vs H R => ∃ (i j c : Int) (n : Nat), vs = [.int i, .int j, .int c] ∧ RgC i j c n ∧ R (Itc i c n) H) rng3 := by
  intro r H st ds vs it Q S hd h P
  unfold rng3 at h
  split at h
  · split at h
    · rename_i i j c h2
      cases h
      obtain ⟨v, w, u, rfl, hv, hw, hu⟩ := hd.three
      exact ⟨i, j, c, _, by rw [hv.int_, hw.int_, hu.int_], h2, P _ itOk_rngC⟩
    · cases h
  · cases h
end
/-- two lists, two tuples side by side -/
def zipD (xs ys : List D) : List D := List.zipWith (fun x y => .ztp [x, y]) xs ys
def isTup : D → Bool
  | .tup _ => true
  | _ => false
def zipI : FI := fun ds st => match ds with
  | [a, b] => match itV a st, itV b st with
    | some i, some j => if isTup a = isTup b then some ⟨zipD i.ds j.ds, i.src ++ j.src⟩ else none
    | _, _ => none
  | _ => none
theorem zipD_get {xs ys : List D} {i : Nat} {d : D} (h : (zipD xs ys)[i]? = some d) : ∃ x y, xs[i]? = some x ∧ ys[i]? = some y ∧ d = .ztp [x, y] := by
  unfold zipD at h
  rw [List.getElem?_zipWith] at h
  cases q : xs[i]? with
  | none => rw [q] at h; cases h
  | some x =>
    cases q2 : ys[i]? with
    | none => rw [q, q2] at h; cases h
    | some y => rw [q, q2] at h; cases h; exact ⟨x, y, rfl, rfl, rfl⟩
theorem zipD_len (xs ys : List D) : (zipD xs ys).length = min xs.length ys.length := by simp [zipD]
/-- a list, a tuple that is walked: at each later state -/
def ItAt (K : PySem.W.Frag) (r : Ad) (H : Hp) (it : Itm) (Sq : Hp → Addr → List V → Prop) (a : Addr) : Prop :=
  ∀ r1 H1 st1, Sim K r1 H1 st1 → Tr K r H r1 H1 → it.hold st1 → ∃ vs, Sq H1 a vs ∧ RDs K r1 H1 it.ds vs
theorem Tr.refl_ {K : PySem.W.Frag} {r : Ad} {H : Hp} : Tr K r H r H := ⟨fun _ _ e _ n => ⟨.inl e, n⟩, fun _ _ z => z, fun _ _ z => z⟩
theorem itAt_ok {K : PySem.W.Frag} {r : Ad} {H : Hp} {st : Store} {d : D} {v : V} {it : Itm} (S : Sim K r H st) (hd : RD K r H d v) (h : itV d st = some it) :
    ∃ a, v = .ref a ∧ it.hold st ∧ ((isTup d = false ∧ ItAt K r H it (SqL K) a) ∨ (isTup d = true ∧ ItAt K r H it (SqT K) a)) := by
  cases d with
  | tup ds =>
    cases h
    simp only [RD] at hd
    obtain ⟨a, vs, rfl, s, q⟩ := hd
    exact ⟨a, rfl, hold_none, .inr ⟨rfl, fun r1 H1 st1 S1 t hh => ⟨vs, (t.tup a _ s).1, q.tr t⟩⟩⟩
  | lst ds =>
    cases h
    simp only [RD] at hd
    obtain ⟨a, vs, rfl, s, n, q⟩ := hd
    exact ⟨a, rfl, hold_none, .inl ⟨rfl, fun r1 H1 st1 S1 t hh => ⟨vs, .of ((t.obj a _ s (fun _ z => by cases z) n).1.nd fun _ z => by cases z), q.tr t⟩⟩⟩
  | ref n =>
    unfold itV at h
    cases q : st[n]? with
    | none => simp only [q] at h; cases h
    | some o =>
      obtain ⟨a, rfl, h1, h2⟩ := S.at_ hd q
      simp only [q] at h
      have main : ∀ ds : List D, it = ⟨ds, [(n, ds)]⟩ → ItAt K r H it (SqL K) a := fun ds e => by
        subst e
        intro r1 H1 st1 S1 t hh
        have hn := t.at_ n a h1
        rcases hh (n, ds) (by simp) with z | z
        · obtain ⟨vs, e1, t1⟩ := S1.ob n a _ hn z; exact ⟨vs, .of e1, t1⟩
        · obtain ⟨o, vs, e1, t1⟩ := S1.ob n a _ hn z; exact ⟨vs, .inl (.inr ⟨o, e1⟩), t1⟩
      cases o with
      | lst ds => cases h; exact ⟨a, rfl, fun p hp => by simp at hp; subst hp; exact .inl q, .inl ⟨rfl, main ds rfl⟩⟩
      | flst ds => cases h; exact ⟨a, rfl, fun p hp => by simp at hp; subst hp; exact .inr q, .inl ⟨rfl, main ds rfl⟩⟩
      | dct ks ds => cases h
      | fdct ks ds => cases h
  | _ => cases h
theorem hold_app {ds1 ds2 ds : List D} {s1 s2 : List (Nat × List D)} {st : Store} (h : Itm.hold ⟨ds, s1 ++ s2⟩ st) : Itm.hold ⟨ds1, s1⟩ st ∧ Itm.hold ⟨ds2, s2⟩ st := ⟨fun p m => h p (List.mem_append_left _ m), fun p m => h p (List.mem_append_right _ m)⟩
theorem zip_core {K : PySem.W.Frag} {r : Ad} {H : Hp} {i j : Itm} {a b : Addr} {Sq : Hp → Addr → List V → Prop} (hi : ItAt K r H i Sq a) (hj : ItAt K r H j Sq b) :
    ItOk K r H ⟨zipD i.ds j.ds, i.src ++ j.src⟩ ⟨fun i H => ∃ (xs ys : List V) (x y : V), Sq H a xs ∧ Sq H b ys ∧ xs[i]? = some x ∧ ys[i]? = some y,
      fun i H v H' => ∃ T x y, v = .ref T ∧ H T = none ∧ H' = upd H T (.tup [x, y]) ∧ (∀ xs, Sq H a xs → xs[i]? = some x) ∧ ∀ ys, Sq H b ys → ys[i]? = some y,
      fun i H => ∃ xs ys : List V, Sq H a xs ∧ Sq H b ys ∧ (xs.length ≤ i ∨ ys.length ≤ i)⟩ := by
  intro r1 H1 st1 S t hh
  obtain ⟨h1, h2⟩ := hold_app (ds1 := i.ds) (ds2 := j.ds) hh
  obtain ⟨xs, sx, tx⟩ := hi r1 H1 st1 S t h1
  obtain ⟨ys, sy, ty⟩ := hj r1 H1 st1 S t h2
  refine ⟨fun k hk => ⟨xs, ys, sx, sy, ?_⟩, fun k d hd => ?_⟩
  · rw [zipD_len, tx.length, ty.length] at hk
    omega
  · obtain ⟨x, y, e1, e2, rfl⟩ := zipD_get hd
    obtain ⟨v, g1, g2⟩ := tx.get e1
    obtain ⟨w, g3, g4⟩ := ty.get e2
    refine ⟨⟨xs, ys, v, w, sx, sy, g1, g3⟩, fun z H2 hy => ?_⟩
    obtain ⟨T, v', w', rfl, hT, rfl, k1, k2⟩ := hy
    have e3 := k1 xs sx
    have e4 := k2 ys sy
    rw [g1] at e3
    rw [g3] at e4
    cases e3
    cases e4
    obtain ⟨S2, x2⟩ := S.side (o := .tup [v, w]) hT
    exact ⟨S2, x2, by simp only [RD]; exact ⟨T, [v, w], rfl, ⟨.of upd_same, fun z => by cases z⟩, RDs.cons (g2.mono x2) (RDs.cons (g4.mono x2) RDs.nil)⟩⟩
theorem zipI_ok {K : PySem.W.Frag} : ItS K (fun vs H R => ∃ a b xs ys, vs = [.ref a, .ref b] ∧ ((SqL K H a xs ∧ SqL K H b ys ∧ R (Itz K a b) H) ∨ (SqT K H a xs ∧ SqT K H b ys ∧ R (RZ.ItzT K a b) H))) zipI := by
  intro r H st ds vs it Q S hd h P
  unfold zipI at h
  split at h
  · rename_i d c
    obtain ⟨v, w, rfl, hv, hw⟩ := hd.two
    split at h
    · rename_i i j e1 e2
      split at h
      · rename_i ht
        cases h
        obtain ⟨a, rfl, o1, h1⟩ := itAt_ok S hv e1
        obtain ⟨b, rfl, o2, h2⟩ := itAt_ok S hw e2
        rcases h1 with ⟨k1, h1⟩ | ⟨k1, h1⟩
        · rcases h2 with ⟨k2, h2⟩ | ⟨k2, h2⟩
          · obtain ⟨xs, sx, _⟩ := h1 r H st S Tr.refl_ o1
            obtain ⟨ys, sy, _⟩ := h2 r H st S Tr.refl_ o2
            exact ⟨a, b, xs, ys, rfl, .inl ⟨sx, sy, P _ (zip_core h1 h2)⟩⟩
          · rw [k1, k2] at ht; cases ht
        · rcases h2 with ⟨k2, h2⟩ | ⟨k2, h2⟩
          · rw [k1, k2] at ht; cases ht
          · obtain ⟨xs, sx, _⟩ := h1 r H st S Tr.refl_ o1
            obtain ⟨ys, sy, _⟩ := h2 r H st S Tr.refl_ o2
            exact ⟨a, b, xs, ys, rfl, .inr ⟨sx, sy, P _ (zip_core h1 h2)⟩⟩
      · cases h
    · cases h
  · cases h
/-- a list and its places -/
def enumD (xs : List D) : List D := List.zipWith (fun (i : Nat) x => .ztp [.int i, x]) (List.range xs.length) xs
section
variable {X : Cx} {EW : EWt}
theorem i_range1 {tg a : Expr} {p pos : Pos} {m : M (List D)} (hg : Gl X "range") (hm : X.mg "range" = none) (h : As X EW [a] m) (hs : starEach [a] X.env = [(false, eval a X.env)] := by rfl) : I_ X EW tg (.Call (.Name "range" p) [a] [] pos) (iOf rng1 m) :=
  PI.weak (pi_range1 hg hm h hs) fun _ _ _ h => iOf_weak rng1_ok h
theorem i_range2 {tg a b : Expr} {p pos : Pos} {m : M (List D)} (hg : Gl X "range") (hm : X.mg "range" = none) (h : As X EW [a, b] m) (hs : starEach [a, b] X.env = [(false, eval a X.env), (false, eval b X.env)] := by rfl) (hs2 : starEach [b] X.env = [(false, eval b X.env)] := by rfl) :
    I_ X EW tg (.Call (.Name "range" p) [a, b] [] pos) (iOf rng2 m) :=
  PI.weak (pi_range2 hg hm h hs hs2) fun _ _ _ h => iOf_weak rng2_ok h
theorem i_range3 {tg a b c : Expr} {p pos : Pos} {m : M (List D)} (hg : Gl X "range") (hm : X.mg "range" = none) (h : As X EW [a, b, c] m) (hs : starEach [a, b, c] X.env = (false, eval a X.env) :: starEach [b, c] X.env := by rfl) (hpl : (backTo pos (starEach [b, c] X.env)).any (·.1) = false := by rfl) :
    I_ X EW tg (.Call (.Name "range" p) [a, b, c] [] pos) (iOf rng3 m) :=
  PI.weak (pi_range3 hg hm h hs hpl) fun _ _ _ h => iOf_weak rng3_ok h
theorem i_zip {e e2 : Expr} {p pos tpos : Pos} {elts : List Expr} {kk : Nat} {m : M (List D)} (hg : Gl X "zip") (hm : X.mg "zip" = none) (h : As X EW [e, e2] m)
    (hs : starEach [e, e2] X.env = (false, eval e X.env) :: starEach [e2] X.env := by rfl) (hpl : (backTo pos (starEach [e2] X.env)).any (·.1) = false := by rfl) :
    I_ X EW (.Tuple elts kk tpos) (.Call (.Name "zip" p) [e, e2] [] pos) (iOf zipI m) :=
  PI.weak (RZ.pi_zipA hg hm h hs hpl) fun _ _ _ h => iOf_weak zipI_ok h
end
end FW

set_option maxHeartbeats 4000000
namespace FW
open PySem L2

/-! ### tuple(range(..)), list(range(..)) -/
open PyProof.Rows in
def PRn (X : Cx) (e : Expr) (t : L2.St → Hp → (Int → Int → Nat → Hp → Prop) → Prop) : Prop := ∀ (pins : List (Addr × Obj)) (s : Shared) (σ : L2.St) (H : Hp) (Q : Int → Int → Nat → Hp → Prop), Inv X pins σ H s → t σ H Q →
  wpAny (model X.prog X.w) X.A (eval e X.env) (fun x s' => ∃ r a b c n t u v H', x = .ref r ∧ IsRange s'.heap r a b c t u v ∧ Builtin.Range.small a b c = true ∧ Builtin.Range.rangeSize a b c = (n : Nat) ∧ Inv X pins σ H' s' ∧ Q a c n H') X.xe s
/-- numbers of a range: from, step, how many -/
abbrev FR := List D → Option (Int × Int × Nat)
def rg1 : FR := fun ds => match ds with
  | [.int j] => if i62 j = true then some (0, 1, j.toNat) else none
  | _ => none
def rg2 : FR := fun ds => match ds with
  | [.int i, .int j] => if (i62 i && i62 j) = true then some (i, 1, (j - i).toNat) else none
  | _ => none
open Classical in
noncomputable def rg3 : FR := fun ds => match ds with
  | [.int i, .int j, .int c] => if RgC i j c (Builtin.Range.rangeSize i j c).toNat then some (i, c, (Builtin.Range.rangeSize i j c).toNat) else none
  | _ => none
def tRn (K : PySem.W.Frag) (EW : EWt) (f : FR) (m : M (List D)) : L2.St → Hp → (Int → Int → Nat → Hp → Prop) → Prop := fun σ H Q => tA K EW m σ H fun vs H1 => ∃ r st ds lo c n, Sim K r H1 st ∧ RDs K r H1 ds vs ∧ f ds = some (lo, c, n) ∧ Q lo c n H1
section
variable {X : Cx} {EW : EWt} {f : FR} {ms : M (List D)}
open PyProof.Rows
theorem rn_1 {a : Expr} {p pos : Pos} (hg : Gl X "range") (hm : X.mg "range" = none) (h : As X EW [a] ms) (hs : starEach [a] X.env = [(false, eval a X.env)] := by rfl) : PRn X (.Call (.Name "range" p) [a] [] pos) (tRn X.K EW rg1 ms) := by
  intro pins s σ H Q I w
  refine Call_ (ld_blt I hg hm boot_range (callWith_type1 (thn (h.run pos pins s σ H _ I w) fun us s1 ⟨vs, H1, I1, r1, q1⟩ => ?_) hs rfl))
  obtain ⟨r, st, ds, lo, c, n, S, hd, e, q⟩ := q1
  unfold rg1 at e
  split at e
  · split at e
    · rename_i j hj
      cases e
      obtain ⟨v, rfl, hv⟩ := hd.one
      rw [hv.int_] at r1
      obtain ⟨u, rfl, t, rfl⟩ := vals1 r1
      obtain ⟨b1, b2⟩ := i62_ok hj
      exact call_range_1 ⟨_, 0, j, 1, j.toNat, _, _, _, H1, rfl, IsRange.new _ _ _ _ _ _ _, small_one (by omega) (by omega) b1 b2, by simpa using rangeSize_nat 0 j, I1.kept fun b u e => Heap.get?_push_of_some _ e, q⟩
    · cases e
  · cases e
theorem rn_2 {a b : Expr} {p pos : Pos} (hg : Gl X "range") (hm : X.mg "range" = none) (h : As X EW [a, b] ms) (hs : starEach [a, b] X.env = [(false, eval a X.env), (false, eval b X.env)] := by rfl) (hs2 : starEach [b] X.env = [(false, eval b X.env)] := by rfl) :
    PRn X (.Call (.Name "range" p) [a, b] [] pos) (tRn X.K EW rg2 ms) := by
  intro pins s σ H Q I w
  refine Call_ (ld_blt I hg hm boot_range (callWith_type1 (thn (h.run pos pins s σ H _ I w) fun us s1 ⟨vs, H1, I1, r1, q1⟩ => ?_) (by rw [hs, hs2]) (by rw [hs2]; rfl)))
  obtain ⟨r, st, ds, lo, c, n, S, hd, e, q⟩ := q1
  unfold rg2 at e
  split at e
  · split at e
    · rename_i i j hj
      cases e
      rw [Bool.and_eq_true] at hj
      obtain ⟨v, v', rfl, hv, hv'⟩ := hd.two
      rw [hv.int_, hv'.int_] at r1
      obtain ⟨u, u', rfl, ⟨t, rfl⟩, t', rfl⟩ := r1.two
      obtain ⟨b1, b2⟩ := i62_ok hj.1
      obtain ⟨b3, b4⟩ := i62_ok hj.2
      exact call_range_2 ⟨_, _, j, 1, _, _, _, _, H1, rfl, IsRange.new _ _ _ _ _ _ _, small_one b1 b2 b3 b4, rangeSize_nat _ j, I1.kept fun b u e => Heap.get?_push_of_some _ e, q⟩
    · cases e
  · cases e
theorem rn_3 {a b c : Expr} {p pos : Pos} (hg : Gl X "range") (hm : X.mg "range" = none) (h : As X EW [a, b, c] ms) (hs : starEach [a, b, c] X.env = (false, eval a X.env) :: starEach [b, c] X.env := by rfl) (hpl : (backTo pos (starEach [b, c] X.env)).any (·.1) = false := by rfl) :
    PRn X (.Call (.Name "range" p) [a, b, c] [] pos) (tRn X.K EW rg3 ms) := by
  intro pins s σ H Q I w
  refine Call_ (ld_blt I hg hm boot_range (callWith_type1 (thn (h.run pos pins s σ H _ I w) fun us s1 ⟨vs, H1, I1, r1, q1⟩ => ?_) hs hpl))
  obtain ⟨r, st, ds, lo, c, n, S, hd, e, q⟩ := q1
  unfold rg3 at e
  split at e
  · split at e
    · rename_i i j k hj
      cases e
      obtain ⟨v, v', v'', rfl, hv, hv', hv''⟩ := hd.three
      rw [hv.int_, hv'.int_, hv''.int_] at r1
      obtain ⟨c0, c1, c2, c3⟩ := hj
      cases r1 with
      | cons r rr =>
        cases rr with
        | cons r' rr =>
          cases rr with
          | cons r'' rr =>
            cases rr
            obtain ⟨t, rfl⟩ := r
            obtain ⟨t', rfl⟩ := r'
            obtain ⟨t'', rfl⟩ := r''
            exact call_range_3 c0 ⟨_, _, j, _, _, _, _, _, H1, rfl, IsRange.new _ _ _ _ _ _ _, c2, c3, I1.kept fun b u e => Heap.get?_push_of_some _ e, q⟩ (.inl (PyProof.noPylong_small c1))
    · cases e
  · cases e
def rgVc (lo c : Int) (n : Nat) : List V := (List.range n).map fun (i : Nat) => V.int (lo + i * c)
theorem vals_rgc {lo c : Int} {n : Nat} {acc : Array Value} (h : ItemsOf (fun i v => ∃ t, v = .int (lo + i * c) t) acc n) : Vals (rgVc lo c n) acc.toList := by
  have e : acc.toList.length = n := by rw [Array.length_toList]; exact h.1
  unfold rgVc
  rw [← e]
  exact vals_of_get acc.toList _ fun j u hj => h.2 j u (by rw [← hj, Array.getElem?_toList])
theorem rds_rgc {K : PySem.W.Frag} {r : Ad} {H : Hp} {lo c : Int} {n : Nat} : RDs K r H (rngC lo c n) (rgVc lo c n) := by
  unfold rngC rgVc
  induction List.range n with
  | nil => exact RDs.nil
  | cons i l ih => exact RDs.cons (by simp only [RD]) ih
theorem pe_tupRn {e : Expr} {t : L2.St → Hp → (Int → Int → Nat → Hp → Prop) → Prop} {p pos : Pos} (hc : X.calm = true) (hg : Gl X "tuple") (hm : X.mg "tuple" = none) (he : PRn X e t) (na : starEach [e] X.env = (false, eval e X.env) :: starEach [] X.env := by rfl) :
    PE X (.Call (.Name "tuple" p) [e] [] pos) (fun σ H Q => t σ H fun lo c n H1 => n ≤ 2 ^ 16 ∧ NewT H1 Q (rgVc lo c n)) := by
  refine ⟨fun pins s σ H Q I h => ?_⟩
  refine Call_ (ld_blt I hg hm boot_tuple (callWith_type1 (args_cons (thn (he pins s σ H _ I h) fun x s1 ⟨r, a, b, c, n, t, u, v, H1, ex, hr, hs, hn, I1, ok, q⟩ => args_nil ?_) na) na))
  subst ex
  refine call_tuple_range (n := n) (I1.ok.hd hc) hr hs hn (by omega) fun h' tk acc hk hi => ?_
  have J : Inv X pins σ H1 { s1 with heap := h', toks := tk } := I1.kept hk
  have sz : (rgVc a c n).length ≤ sizeLine := by unfold rgVc; rw [List.length_map, List.length_range, sizeLine_eq]; omega
  exact laidT (s := { s1 with heap := h', toks := tk }) J (vals_rgc hi) (by rw [Array.toArray_toList]) sz q _ tk
theorem pe_lstRn {e : Expr} {t : L2.St → Hp → (Int → Int → Nat → Hp → Prop) → Prop} {p pos : Pos} (hc : X.calm = true) (hg : Gl X "list") (hm : X.mg "list" = none) (he : PRn X e t) (na : starEach [e] X.env = (false, eval e X.env) :: starEach [] X.env := by rfl) :
    PE X (.Call (.Name "list" p) [e] [] pos) (fun σ H Q => t σ H fun lo c n H1 => n ≤ 2 ^ 16 ∧ ∀ q, H1 q = none → Q (.ref q) (upd H1 q (.lst (rgVc lo c n)))) := by
  refine ⟨fun pins s σ H Q I h => ?_⟩
  refine Call_ (ld_blt I hg hm boot_list (callWith_type1 (args_cons (thn (he pins s σ H _ I h) fun x s1 ⟨r, a, b, c, n, t, u, v, H1, ex, hr, hs, hn, I1, ok, q⟩ => args_nil ?_) na) na))
  subst ex
  refine call_list_range (n := n) (I1.ok.hd hc) hr hs hn (by omega) fun h' tk acc c' hk e' hi => ?_
  have sz : (rgVc a c n).length ≤ sizeLine := by unfold rgVc; rw [List.length_map, List.length_range, sizeLine_eq]; omega
  exact ⟨.ref s1.heap.objs.size, _, I1.laid (o := .lst (rgVc a c n)) hk (Nat.le_refl _) ⟨sz, acc.toList, c', vals_rgc hi, by rw [Array.toArray_toList]; exact e'⟩, rfl, q _ (I1.hok.fresh (Nat.le_refl _))⟩
def xTupR (f : FR) (m : M (List D)) : M D := xbnd m fun ds _ st => match f ds with
  | some (lo, c, n) => if n ≤ 2 ^ 16 then some (.ok (.tup (rngC lo c n)), st) else none
  | none => none
def fLstR (f : FR) (m : M (List D)) : M Ob := xbnd m fun ds _ st => match f ds with
  | some (lo, c, n) => if n ≤ 2 ^ 16 then some (.ok (.lst (rngC lo c n)), st) else none
  | none => none
theorem e_tupRn {e : Expr} {p pos : Pos} (hc : X.calm = true) (hg : Gl X "tuple") (hm : X.mg "tuple" = none) (he : PRn X e (tRn X.K EW f ms)) (na : starEach [e] X.env = (false, eval e X.env) :: starEach [] X.env := by rfl) : E X EW (.Call (.Name "tuple" p) [e] [] pos) (xTupR f ms) := by
  refine PE.weak (pe_tupRn hc hg hm he na) ?_
  rintro σ H Q ⟨r, e, st, out, st', S, hE, h, P⟩
  refine bnd_step S hE h P fun r1 H1 vs ds st1 S1 x1 hE1 hd h1 P1 => ?_
  dsimp only at h1
  split at h1
  · rename_i lo c n q
    split at h1
    · cases h1
      refine ⟨r1, _, ds, lo, c, n, S1, hd, q, by assumption, fun p o ho hp => ?_⟩
      obtain ⟨S2, x2⟩ := S1.side (o := .frz o (.tup (rgVc lo c n))) hp
      exact P1 r1 _ _ S2 x2 (by simp only [RD]; exact ⟨p, _, rfl, ⟨.inl (.inr ⟨o, upd_same⟩), fun _ => .inl ⟨o, ho, upd_same⟩⟩, rds_rgc⟩)
    · cases h1
  · cases h1
theorem f_lstRn {e : Expr} {p pos : Pos} (hc : X.calm = true) (hg : Gl X "list") (hm : X.mg "list" = none) (he : PRn X e (tRn X.K EW f ms)) (na : starEach [e] X.env = (false, eval e X.env) :: starEach [] X.env := by rfl) : EF X EW (.Call (.Name "list" p) [e] [] pos) (fLstR f ms) := by
  refine PE.weak (pe_lstRn hc hg hm he na) ?_
  rintro σ H Q ⟨r, e, st, out, st', S, hE, h, P⟩
  refine bnd_stepO S hE h P fun r1 H1 vs ds st1 S1 x1 hE1 hd h1 => ?_
  dsimp only at h1
  split at h1
  · rename_i lo c n q
    split at h1
    · cases h1
      exact ⟨r1, _, ds, lo, c, n, S1, hd, q, by assumption, fun p hp => P.lay S S1 x1 hp ⟨_, rfl, rds_rgc⟩⟩
    · cases h1
  · cases h1
end
end FW

set_option maxHeartbeats 4000000
namespace FW
open PySem L2

/-! ### stores: xs[i] = v, d[k] = v, xs[a:b] = ys -/
noncomputable def setIx (o i v : D) (st : Store) : Option Store := match mutL o st, i with
  | some (n, ds), .int k => match ixN ds.length k with
    | some j => some (st.set n (.lst (ds.set j v)))
    | none => none
  | some _, _ => none
  | none, i => match mutD o st with
    | some (n, ks, ds) => if (keyD i).isSome = true ∧ ks.length < sizeLine then some (st.set n (.dct (dPut ks ds i v).1 (dPut ks ds i v).2)) else none
    | none => none
def rSetAll : TSet := fun o i v H Q => rSetL o i v H Q ∨ rSetD o i v H Q
theorem PSet.or {X : Cx} {t t' : TSet} (h : PSet X t) (h' : PSet X t') : PSet X (fun o i v H Q => t o i v H Q ∨ t' o i v H Q) := fun pins s σ H o i v ov iv u Q I r1 r2 r3 q => q.elim (h pins s σ H o i v ov iv u Q I r1 r2 r3) (h' pins s σ H o i v ov iv u Q I r1 r2 r3)
theorem setIx_ok {K : PySem.W.Frag} {r : Ad} {H : Hp} {st st' : Store} {o i v : D} {x y w : V} {Q : Hp → Prop} (S : Sim K r H st) (ho : RD K r H o x) (hi : RD K r H i y) (hv : RD K r H v w) (h : setIx o i v st = some st')
    (P : ∀ H', Sim K r H' st' → Ext K r H r H' → Q H') : rSetAll x y w H Q := by
  unfold setIx at h
  split at h
  · rename_i n ds k e
    split at h
    · rename_i j e2
      cases h
      obtain ⟨a, vs, rfl, hn, s, t⟩ := mutL_ok S ho e
      obtain ⟨S2, x2⟩ := S.put (ob := .lst (ds.set j v)) (o := .lst (vs.set j w)) hn ⟨_, rfl, t.set hv j⟩
      exact .inl ⟨a, vs, k, j, rfl, hi.int_, s, by rw [← t.length]; exact e2, P _ S2 x2⟩
    · cases h
  · cases h
  · split at h
    · rename_i n ks ds e
      split at h
      · rename_i hk
        cases h
        obtain ⟨a, kvs, rfl, hn, s, k, t⟩ := mutD_ok S ho e
        obtain ⟨kk, ek⟩ := keyD_some hk.1
        obtain ⟨rfl, rfl⟩ := keyD_ok ek hi
        have hl := hk.2
        obtain ⟨g1, g2⟩ := dPut_ok (k := kk) hv t
        rw [← k] at g1 g2
        obtain ⟨S2, x2⟩ := S.put (ob := .dct (dPut ks ds (kD kk) v).1 (dPut ks ds (kD kk) v).2) (o := .dK (putK kvs kk w)) hn ⟨_, rfl, g1, g2⟩
        exact .inr ⟨a, _, rfl, DPut.k s (by rw [k, List.length_map] at hl; exact hl), P _ S2 x2⟩
      · cases h
    · cases h
noncomputable def gIx (mo mi : M D) : MG := fun d e st => match mo e st with
  | some (.ok o, st1) => match mi e st1 with
    | some (.ok i, st2) => (setIx o i d st2).map fun st3 => (e, st3)
    | _ => none
  | _ => none
def spliceD (ds ys : List D) (a c : Int) : List D := ds.take a.toNat ++ ys ++ ds.drop c.toNat
def isRef (v : D) (n : Nat) : Bool := match v with
  | .ref m => m == n
  | _ => false
def setSl (o : D) (a c : Int) (v : D) (st : Store) : Option Store := match mutL o st with
  | some (n, ds) => match lstOf v st with
    | some ys => if isRef v n = false ∧ 0 ≤ a ∧ a ≤ c ∧ c ≤ ds.length ∧ ds.length + ys.length ≤ sizeLine then some (st.set n (.lst (spliceD ds ys a c))) else none
    | none => none
  | none => none
theorem lst_ne {K : PySem.W.Frag} {r : Ad} {H : Hp} {st : Store} {v : D} {n : Nat} {a b : Addr} {ys : List D} (S : Sim K r H st) (hv : RD K r H v (.ref b)) (e : lstOf v st = some ys) (hn : r.r[n]? = some a) (h : isRef v n = false) : a ≠ b := by
  intro z
  subst z
  cases v with
  | ref m =>
    simp only [RD] at hv
    obtain ⟨a', h1, h2⟩ := hv
    cases h2
    have : m = n := ix_inj S.nd h1 hn
    subst this
    simp [isRef] at h
  | lst xs =>
    simp only [RD] at hv
    obtain ⟨a', vs, h1, s, n', q⟩ := hv
    cases h1
    exact n'.1 (List.mem_of_getElem? hn)
  | _ => cases e
theorem setSl_ok {K : PySem.W.Frag} {r : Ad} {H : Hp} {st st' : Store} {o v : D} {a c : Int} {x w : V} (S : Sim K r H st) (ho : RD K r H o x) (hv : RD K r H v w) (h : setSl o a c v st = some st') :
    ∃ l b xs ys, x = .ref l ∧ w = .ref b ∧ H l = some (.lst xs) ∧ H b = some (.lst ys) ∧ l ≠ b ∧ 0 ≤ a ∧ a ≤ c ∧ c ≤ xs.length ∧ xs.length + ys.length ≤ sizeLine ∧
      Sim K r (upd H l (.lst (xs.take a.toNat ++ ys ++ xs.drop c.toNat))) st' ∧ Ext K r H r (upd H l (.lst (xs.take a.toNat ++ ys ++ xs.drop c.toNat))) := by
  unfold setSl at h
  split at h
  · rename_i n ds e
    split at h
    · rename_i zs e2
      split at h
      · rename_i hh
        cases h
        obtain ⟨l, xs, rfl, hn, s, t⟩ := mutL_ok S ho e
        obtain ⟨b, ys, rfl, s2, t2⟩ := lstOf_ok S hv e2
        obtain ⟨h1, h2, h3, h4, h5⟩ := hh
        have ne := lst_ne S hv e2 hn h1
        obtain ⟨S2, x2⟩ := S.put (ob := .lst (spliceD ds zs a c)) (o := .lst (xs.take a.toNat ++ ys ++ xs.drop c.toNat)) hn ⟨_, rfl, ((t.take _).append t2).append (t.drop _)⟩
        exact ⟨l, b, xs, ys, rfl, rfl, s, s2, ne, h2, h3, by rw [← t.length]; exact h4, by rw [← t.length, ← t2.length]; exact h5, S2, x2⟩
      · cases h
    · cases h
  · cases h
/-- a bound of a slice that is stored to: all of it must be said -/
def gSl (mo ma mc : M D) : MG := fun d e st => match mo e st with
  | some (.ok o, st1) => match ma e st1 with
    | some (.ok (.int a), st2) => match mc e st2 with
      | some (.ok (.int c), st3) => (setSl o a c d st3).map fun st4 => (e, st4)
      | _ => none
    | _ => none
  | _ => none
section
variable {X : Cx} {EW : EWt}
theorem g_sub {o i : Expr} {pos : Pos} {mo mi : M D} (hu : X.A.units + 1 < cLine) (ho : E X noX o mo) (hi : E X noX i mi)
    (ha : ∀ v, assign (.Subscript o i pos) X.env v = (do
      let ov ← holding [v] (eval o X.env)
      let iv ← holding [v, ov] (eval i X.env)
      standAt pos
      holding [v, ov, iv] (setItem ov iv v)
      release [v, ov, iv] []) := by intro _; rfl) : G X [] (.Subscript o i pos) (gIx mo mi) := by
  refine PG.weak (pg_sub ho hi (PSet.or set_list (set_dict hu)) ha) ?_
  rintro v σ H Q ⟨r, e, st, d, e', st', S, hE, hd, h, P⟩
  unfold gIx at h
  split at h
  · rename_i o' st1 q1
    split at h
    · rename_i i' st2 q2
      cases q3 : setIx o' i' d st2 with
      | none => rw [q3] at h; cases h
      | some st3 =>
        rw [q3] at h
        cases h
        refine ⟨r, e, st, _, _, S, hE, q1, fun r1 H1 x S1 x1 hx => ⟨r1, e, st1, _, _, S1, hE.mono x1, q2, fun r2 H2 y S2 x2 hy => ?_⟩⟩
        have x12 := x1.trans' S S1 x2
        exact setIx_ok S2 (hx.mono x2) hy ((hd.mono x1).mono x2) q3 fun H3 S3 x3 => P r2 H3 σ S3 (x12.trans' S S2 x3) (hE.mono (x12.trans' S S2 x3)) (Off.refl _ _)
    · cases h
  · cases h
theorem g_slice {o lo hi : Expr} {p2 pos : Pos} {mo ma mc : M D} (ho : E X noX o mo) (hl : E X noX lo ma) (hh : E X noX hi mc)
    (ha : ∀ v, assign (.Subscript o (.Slice (some lo) (some hi) none p2) pos) X.env v = (do
      let ov ← holding [v] (eval o X.env)
      let iv ← holding [v, ov] (eval (.Slice (some lo) (some hi) none p2) X.env)
      standAt pos
      holding [v, ov, iv] (setItem ov iv v)
      release [iv, v, ov] []) := by intro _; rfl) : G X [] (.Subscript o (.Slice (some lo) (some hi) none p2) pos) (gSl mo ma mc) := by
  refine ⟨fun pins s σ H v u Q I rv w => ?_⟩
  obtain ⟨r, e, st, d, e', st', S, hE, hd, h, P⟩ := w
  unfold gSl at h
  split at h
  · rename_i o' st1 q1
    split at h
    · rename_i a st2 q2
      split at h
      · rename_i c st3 q3
        cases q4 : setSl o' a c d st3 with
        | none => rw [q4] at h; cases h
        | some st4 =>
          rw [q4] at h
          cases h
          have body : tE X.K noX mo σ H fun x H1 => tE X.K noX ma σ H1 fun y H2 => tE X.K noX mc σ H2 fun z H3 => ∃ l b xs ys, x = .ref l ∧ v = .ref b ∧ y = .int a ∧ z = .int c ∧ H3 l = some (.lst xs) ∧ H3 b = some (.lst ys) ∧ l ≠ b ∧ 0 ≤ a ∧ a ≤ c ∧ c ≤ xs.length ∧ xs.length + ys.length ≤ sizeLine ∧ Q σ (upd H3 l (.lst (xs.take a.toNat ++ ys ++ xs.drop c.toNat))) := by
            refine ⟨r, e, st, _, _, S, hE, q1, fun r1 H1 x S1 x1 hx => ⟨r1, e, st1, _, _, S1, hE.mono x1, q2, fun r2 H2 y S2 x2 hy => ⟨r2, e, st2, _, _, S2, (hE.mono x1).mono x2, q3, fun r3 H3 z S3 x3 hz => ?_⟩⟩⟩
            have x12 := x1.trans' S S1 x2
            have x13 := x12.trans' S S2 x3
            obtain ⟨l, b, xs, ys, e1, e2, e3, e4, e5, e6, e7, e8, e9, S4, x4⟩ := setSl_ok S3 ((hx.mono x2).mono x3) (hd.mono x13) q4
            exact ⟨l, b, xs, ys, e1, e2, hy.int_, hz.int_, e3, e4, e5, e6, e7, e8, e9, P r3 _ σ S4 (x13.trans' S S3 x4) (hE.mono (x13.trans' S S3 x4)) (Off.refl _ _)⟩
          rw [ha]
          refine wpAny_bind (wpAny_holding (thn (ho.run pins s σ H _ I body) fun ov s1 ⟨x, H1, I1, r1, b1⟩ => ?_))
          refine wpAny_bind (wpAny_holding (wpAny_Slice (thn (hl.run pins s1 σ H1 _ I1 b1) fun lv s2 ⟨y, H2, I2, r2, b2⟩ => thn (hh.run pins s2 σ H2 _ I2 b2) fun uv s3 ⟨z, H3, I3, r3, b3⟩ => ?_)))
          rw [evalPart_none]
          refine wpAny_pure ?_
          obtain ⟨l, b, xs, ys, rfl, rfl, rfl, rfl, e3, e4, e5, e6, e7, e8, e9, fin⟩ := b3
          cases r1
          cases rv
          have J : Inv X pins σ H3 { s3 with heap := s3.heap.push { cls := .type "slice", data := .fields #[lv, uv, .none] } } := I3.kept (t' := s3.toks) fun b ob q => Heap.get?_push_of_some _ q
          refine wpAny_bind (wpAny_standAt (wpAny_bind (wpAny_holding (set_slice J e3 e4 e5 (Heap.IsSliceOf.new ..) r2 r3 e6 e7 e8 e9 fun s4 I4 => ?_))))
          exact wpAny_release ⟨σ, _, I4, fin⟩
      · cases h
    · cases h
  · cases h
end
/-! ### o op= e -/
def rIpI (f : Int → Int → Int) : V → V → Hp → VK → Prop := ipI f
def fIp (f : Int → Int → Int) : F2 := fun x y st => match x, y with
  | .int i, .int j => some (.int (f i j), st)
  | _, _ => none
theorem fIp_ok {K : PySem.W.Frag} {f : Int → Int → Int} : OpS K (ipI f) (fIp f) := by
  intro r H st d c x y z st' Q S hd hc h P
  unfold fIp at h
  split at h
  · cases h
    exact ⟨_, _, hd.int_, hc.int_, P.int S⟩
  · cases h
def sAug (i : Nat) (f : F2) (m : M D) : MS := fun e st => match e[i]? with
  | some (some x) => bndS (m e st) e fun y st1 => (f x y st1).map fun p => (.nx (e.set i (some p.1)), p.2)
  | _ => none
section
variable {X : Cx} {EW : EWt}
theorem s_aug (i : Nat) {x : Str} {a : Expr} {op : Operator} {ti : TIp} {f : F2} {pos' pos : Pos} {m : M D} (hN : X.N.Nodup) (ho : PIp X op ti) (hf : OpS X.K ti f) (ha : E X EW a m) (hi : X.N[i]? = some x := by rfl)
    (hx : Loc X.env.scope x := by first | exact Or.inl rfl | exact Or.inr rfl) (hf' : X.fn x = true ∨ X.env.scope.names.lookup x = some .local := by first | exact .inl rfl | exact .inr rfl) : S_ X EW (.AugAssign (.Name x pos') op a pos) (sAug i f m) := by
  refine PS.weak (ps_aug hN hi hx ha ho hf') ?_
  rintro D σ H ⟨r, e, st, out, st', S, hE, h, P⟩
  unfold sAug at h
  split at h
  · rename_i d q
    obtain ⟨v, h1, h2⟩ := hE.at' i d q
    refine ⟨v, h1, bndS_step S hE h P fun r1 H1 y c st1 S1 x1 hE1 hc h3 P1 => ?_⟩
    cases q2 : f d c st1 with
    | none => rw [q2] at h3; cases h3
    | some p =>
      obtain ⟨z, st2⟩ := p
      rw [q2] at h3
      cases h3
      exact hf r1 H1 st1 d c v y z _ _ S1 (h2.mono x1) hc q2 fun r2 H2 w S2 x2 hw => P1 r2 H2 _ S2 x2 ((hE1.mono x2).set hw)
  · cases h
end
end FW

set_option maxHeartbeats 4000000
namespace FW
open PySem L2

/-! ### o[i] op= e -/
section
variable {X : Cx} {EW : EWt}
open PyProof.Rows in
theorem get_list : PGet X (rIxL X.K) := by
  intro pins s σ H o i ov iv Q I ro ri h
  obtain ⟨p, xs, k, z, rfl, rfl, hq, he, q⟩ := h
  cases ro
  obtain ⟨t, rfl⟩ := ri
  obtain ⟨its, r, pl, hz⟩ := I.list hq
  obtain ⟨j, h1, h2, h3, h4, h5⟩ := atI_get he
  obtain ⟨w, ew, rw'⟩ := r.get h2
  have hl := r.length
  have hn := line63
  have fin : EP X pins σ Q w s := ⟨z, H, I, rw', q⟩
  rcases Int.lt_or_le k 0 with h0 | h0
  · have hj : (k + (its.toArray.size : Int)).toNat = j := by
      rw [seqIndex_neg h0 h4] at h1
      rw [List.size_toArray, ← hl]
      exact Option.some.inj h1
    exact wpAny_getItem_list_neg pl.isList h0 (by rw [List.size_toArray] <;> omega) (by omega) (by rw [hj]; simpa using ew) fin
  · have hj : k.toNat = j := by
      rw [seqIndex_of h0 h5] at h1
      exact Option.some.inj h1
    exact wpAny_getItem_list pl.isList h0 (by omega) (by rw [hj]; simpa using ew) fin
def rGetD : V → V → Hp → VK → Prop := fun o i H Q => ∃ a v, o = .ref a ∧ DGet H a i (some v) ∧ Q v H
theorem get_dict (hu : X.A.units + 1 < cLine) : PGet X rGetD := by
  intro pins s σ H o i ov iv Q I ro ri h
  obtain ⟨a, v, rfl, g, q⟩ := h
  cases ro
  exact d_getItem hu I g ri fun w s' I' rw' => ⟨v, H, I', rw', q⟩
theorem PGet.or {t t' : V → V → Hp → VK → Prop} (h : PGet X t) (h' : PGet X t') : PGet X (fun o i H Q => t o i H Q ∨ t' o i H Q) := fun pins s σ H o i ov iv Q I r1 r2 q => q.elim (h pins s σ H o i ov iv Q I r1 r2) (h' pins s σ H o i ov iv Q I r1 r2)
end
noncomputable def oGetM : F2 := fun x i st => match mutL x st, i with
  | some (n, ds), .int k => match atI ds k with
    | some d => some (d, st)
    | none => none
  | some _, _ => none
  | none, i => match mutD x st with
    | some (n, ks, ds) => if (keyD i).isSome = true then (match dGet ks ds i with
      | some d => some (d, st)
      | none => none) else none
    | none => none
def rGetAll (K : PySem.W.Frag) : V → V → Hp → VK → Prop := fun o i H Q => rIxL K o i H Q ∨ rGetD o i H Q
theorem oGetM_ok {K : PySem.W.Frag} : OpS K (rGetAll K) oGetM := by
  intro r H st d c x y z st' Q S hd hc h P
  unfold oGetM at h
  split at h
  · rename_i n ds k e
    split at h
    · rename_i w e2
      cases h
      obtain ⟨a, vs, rfl, hn, s, t⟩ := mutL_ok S hd e
      obtain ⟨v, h1, h2⟩ := t.atI e2
      exact .inl ⟨a, vs, k, v, rfl, hc.int_, .of s, h1, P.here S h2⟩
    · cases h
  · cases h
  · split at h
    · rename_i n ks ds e
      split at h
      · rename_i hk
        split at h
        · rename_i w e2
          cases h
          obtain ⟨a, kvs, rfl, hn, s, k, t⟩ := mutD_ok S hd e
          obtain ⟨kk, ek⟩ := keyD_some hk
          obtain ⟨rfl, rfl⟩ := keyD_ok ek hc
          have g := dGet_ok (k := kk) t
          rw [← k, e2] at g
          obtain ⟨v, g1, g2⟩ := g
          exact .inr ⟨a, v, rfl, by rw [← g1]; exact DGet.k s, P.here S g2⟩
        · cases h
      · cases h
    · cases h
noncomputable def sAugS (f : F2) (mo mi m : M D) : MS := fun e st => bndS (mo e st) e fun o st1 => bndS (mi e st1) e fun i st2 => match oGetM o i st2 with
  | some (x, st3) => bndS (m e st3) e fun y st4 => match f x y st4 with
    | some (z, st5) => (setIx o i z st5).map fun st6 => (.nx e, st6)
    | none => none
  | none => none
section
variable {X : Cx} {EW : EWt}
theorem s_augS {o i a : Expr} {op : Operator} {ti : TIp} {f : F2} {tpos pos : Pos} {mo mi m : M D} (hu : X.A.units + 1 < cLine) (ho : E X EW o mo) (hi : E X EW i mi) (hop : PIp X op ti) (hf : OpS X.K ti f) (ha : E X EW a m)
    (hs : ∀ ov iv new, augStore i ov iv new = (do holding [new, ov, iv] (setItem ov iv new); release [new, ov, iv] []; pure .next) := by intros; rfl) : S_ X EW (.AugAssign (.Subscript o i tpos) op a pos) (sAugS f mo mi m) := by
  refine PS.weak (ps_augS ho hi (PGet.or get_list (get_dict hu)) ha hop (PSet.or set_list (set_dict hu)) hs) ?_
  rintro D σ H ⟨r, e, st, out, st', S, hE, h, P⟩
  refine bndS_step S hE h P fun r1 H1 x d st1 S1 x1 hE1 hd h1 P1 => bndS_step S1 hE1 h1 P1 fun r2 H2 y c st2 S2 x2 hE2 hc h2 P2 => ?_
  cases q : oGetM d c st2 with
  | none => rw [q] at h2; cases h2
  | some p =>
    obtain ⟨g, st3⟩ := p
    rw [q] at h2
    have hd2 := hd.mono x2
    refine oGetM_ok r2 H2 st2 d c x y g st3 _ S2 hd2 hc q fun r3 H3 w S3 x3 hw => ?_
    have P3 := P2.later S2 S3 x3
    refine bndS_step S3 (hE2.mono x3) h2 P3 fun r4 H4 u b st4 S4 x4 hE4 hb h4 P4 => ?_
    cases q2 : f g b st4 with
    | none => rw [q2] at h4; cases h4
    | some p =>
      obtain ⟨z, st5⟩ := p
      rw [q2] at h4
      refine hf r4 H4 st4 g b w u z st5 _ S4 (hw.mono x4) hb q2 fun r5 H5 k S5 x5 hk => ?_
      have P5 := P4.later S4 S5 x5
      cases q3 : setIx d c z st5 with
      | none => dsimp only at h4; rw [q3] at h4; cases h4
      | some st6 =>
        dsimp only at h4
        rw [q3] at h4
        cases h4
        exact setIx_ok S5 (((hd2.mono x3).mono x4).mono x5) (((hc.mono x3).mono x4).mono x5) hk q3 fun H6 S6 x6 => P5 r5 H6 _ S6 x6 ((hE4.mono x5).mono x6)
/-! ### a, b = e1, e2 -/
def sPar (is : List Nat) (m : M (List D)) : MS := fun e st => bndS (m e st) e fun ds st1 => if ds.length = is.length then some (.nx ((is.zip ds).foldl (fun e p => e.set p.1 (some p.2)) e), st1) else none
theorem s_par (i j : Nat) {x y : Str} {a b : Expr} {px py pt pos : Pos} {kt k2 pt2} {m : M (List D)} (hc : X.calm = true) (hN : X.N.Nodup) (ha : As X EW [a, b] m) (hi : X.N[i]? = some x := by rfl) (hj : X.N[j]? = some y := by rfl) (hij : i ≠ j := by decide)
    (hx : X.env.scope.names.lookup x = some .local := by rfl) (hy : X.env.scope.names.lookup y = some .local := by rfl)
    (hw : swappedStores [.Tuple [.Name x px, .Name y py] kt pt] (.Tuple [a, b] k2 pt2) X.env = pure (some [x, y]) := by rfl)
    (hs : swapsWithSole [.Tuple [.Name x px, .Name y py] kt pt] (.Tuple [a, b] k2 pt2) pos.line X.env = pure false := by rfl) : S_ X EW (.Assign [.Tuple [.Name x px, .Name y py] kt pt] (.Tuple [a, b] k2 pt2) pos) (sPar [i, j] m) := by
  refine PS.weak (ps_par hc hN hi hj hij hx hy ha hw hs) ?_
  rintro D σ H ⟨r, e, st, out, st', S, hE, h, P⟩
  refine bndS_step S hE h P fun r1 H1 vs ds st1 S1 x1 hE1 hd h1 P1 => ?_
  split at h1
  · rename_i hl
    match ds, hl, hd, h1 with
    | [d, c], _, hd, h1 =>
      cases h1
      obtain ⟨v, w, rfl, hv, hw⟩ := hd.two
      exact ⟨v, w, rfl, P1 r1 H1 _ S1 (Ext.refl _ _ _) ((hE1.set hv).set hw)⟩
  · cases h1
theorem s_par3 (i j l : Nat) {x y z : Str} {a b c : Expr} {px py pz pt pos : Pos} {kt k2 pt2} {m : M (List D)} (hc : X.calm = true) (hN : X.N.Nodup) (ha : As X EW [a, b, c] m) (hi : X.N[i]? = some x := by rfl) (hj : X.N[j]? = some y := by rfl) (hl : X.N[l]? = some z := by rfl) (hij : i ≠ j := by decide) (hil : i ≠ l := by decide) (hjl : j ≠ l := by decide)
    (hx : X.env.scope.names.lookup x = some .local := by rfl) (hy : X.env.scope.names.lookup y = some .local := by rfl) (hz : X.env.scope.names.lookup z = some .local := by rfl)
    (hw : swappedStores [.Tuple [.Name x px, .Name y py, .Name z pz] kt pt] (.Tuple [a, b, c] k2 pt2) X.env = pure (some [x, y, z]) := by rfl)
    (hs : swapsWithSole [.Tuple [.Name x px, .Name y py, .Name z pz] kt pt] (.Tuple [a, b, c] k2 pt2) pos.line X.env = pure false := by rfl) : S_ X EW (.Assign [.Tuple [.Name x px, .Name y py, .Name z pz] kt pt] (.Tuple [a, b, c] k2 pt2) pos) (sPar [i, j, l] m) := by
  refine PS.weak (ps_par3 hc hN hi hj hl hij hil hjl hx hy hz ha hw hs) ?_
  rintro D σ H ⟨r, e, st, out, st', S, hE, h, P⟩
  refine bndS_step S hE h P fun r1 H1 vs ds st1 S1 x1 hE1 hd h1 P1 => ?_
  split at h1
  · rename_i hl
    match ds, hl, hd, h1 with
    | [d, c, b], _, hd, h1 =>
      cases h1
      obtain ⟨v, w, u, rfl, hv, hw, hu⟩ := hd.three
      exact ⟨v, w, u, rfl, P1 r1 H1 _ S1 (Ext.refl _ _ _) (((hE1.set hv).set hw).set hu)⟩
  · cases h1
/-! ### displays with stars; {} -/
def aStar (a : M D) (as : M (List D)) : M (List D) := xbnd a fun d e st => match seqOf d st with
  | some ds => bnd (as e st) fun cs st1 => some (.ok (ds ++ cs), st1)
  | none => none
theorem a_star {a : Expr} {es : List Expr} {p : Pos} {ma : M D} {ms : M (List D)} (ha : E X EW a ma) (hs : As X EW es ms) (hst : starEach (.Starred a p :: es) X.env = (true, eval a X.env) :: starEach es X.env := by rfl) : As X EW (.Starred a p :: es) (aStar ma ms) := by
  refine PA.weak (StX.pa_star ha hs hst) ?_
  rintro σ H Q ⟨r, e, st, out, st', S, hE, h, P⟩
  refine bnd_step S hE h P fun r1 H1 x d st1 S1 x1 hE1 hd h1 P1 => ?_
  dsimp only at h1
  split at h1
  · rename_i ds q
    obtain ⟨a, vs, rfl, s, t⟩ := seqOf_ok S1 hd q
    refine ⟨a, vs, rfl, s.symm, bnd_step S1 hE1 h1 P1 fun r2 H2 ys cs st2 S2 x2 hE2 hc h2 P2 => ?_⟩
    cases h2
    exact P2 r2 H2 _ S2 (Ext.refl _ _ _) ((t.mono x2).append hc)
  · cases h1
def fDct0 : M Ob := fun _ st => some (.ok (.dct [] []), st)
theorem f_dct0 {pos : Pos} : EF X EW (.Dict [] [] pos) fDct0 := by
  refine PE.weak pe_dnewK ?_
  rintro σ H Q ⟨r, e, st, out, st', S, hE, h, P⟩
  cases h
  exact fun p hp => P.lay S S (Ext.refl _ _ _) hp ⟨[], rfl, rfl, RDs.nil⟩
end
end FW

set_option maxHeartbeats 4000000
namespace FW
open PySem L2

abbrev oLeA : F2 := oCmp (fun i j => decide (i ≤ j)) (fun a b => !decide (b < a))
abbrev oGeA : F2 := oCmp (fun i j => decide (j ≤ i)) (fun a b => !decide (a < b))
/-- ==: of texts, of data -/
noncomputable def oEqA : F2 := fun x y st => match x, y with
  | .str a, .str b => some (.bl (decide (a = b)), st)
  | x, y => oEq x y st
def rEqAll (K : PySem.W.Frag) : R2 := fun x y H Q => rEq x y H Q ∨ rEqD K x y H Q
theorem op_eqAll {X : Cx} (hu : X.A.units + 64 < cLine) : OpR X (compareOp .Eq) (rEqAll X.K) := OpR.or op_eq (op_eqD hu)
theorem oEqA_ok {K : PySem.W.Frag} : OpS K (rEqAll K) oEqA := by
  intro r H st d c x y z st' Q S hd hc h P
  unfold oEqA at h
  split at h
  · rename_i a b
    cases h
    rw [hd.str_, hc.str_]
    refine .inl ⟨rfl, ?_⟩
    rw [show decide (V.str a = V.str b) = decide (a = b) from decide_eq_decide.mpr ⟨fun h => by cases h; rfl, fun h => by rw [h]⟩]
    exact P.bl S
  · exact .inr (oEq_ok r H st d c x y z st' Q S hd hc h P)
/-- !=: of texts, of data -/
noncomputable def oNeA : F2 := fun x y st => match x, y with
  | .str a, .str b => some (.bl (!decide (a = b)), st)
  | x, y => oNe x y st
def rNeAll (K : PySem.W.Frag) : R2 := fun x y H Q => rNe x y H Q ∨ rNeD K x y H Q
theorem op_neAll {X : Cx} (hu : X.A.units + 64 < cLine) : OpR X (compareOp .NotEq) (rNeAll X.K) := OpR.or op_ne (op_neD hu)
theorem oNeA_ok {K : PySem.W.Frag} : OpS K (rNeAll K) oNeA := by
  intro r H st d c x y z st' Q S hd hc h P
  unfold oNeA at h
  split at h
  · rename_i a b
    cases h
    rw [hd.str_, hc.str_]
    refine .inl ⟨rfl, ?_⟩
    rw [show decide (V.str a = V.str b) = decide (a = b) from decide_eq_decide.mpr ⟨fun h => by cases h; rfl, fun h => by rw [h]⟩]
    exact P.bl S
  · exact .inr (oNe_ok r H st d c x y z st' Q S hd hc h P)
/-! ### an operator that makes a list -/
abbrev Fo2 := D → D → Store → Option Ob
def f2 (f : Fo2) (a b : M D) : M Ob := xbnd a fun d => xbnd b fun c _ st => match f d c st with
  | some ob => some (.ok ob, st)
  | none => none
def Fo2S (K : PySem.W.Frag) (rr : R2) (f : Fo2) : Prop := ∀ r H st d c x y ob Q,
  Sim K r H st → RD K r H d x → RD K r H c y → f d c st = some ob → (∀ p o, H p = none → RO K r H ob (some o) → Q (.ref p) (upd H p o)) → rr x y H Q
theorem f_op {X : Cx} {EW : EWt} {a b : Expr} {op : Operator} {pos : Pos} {rr : R2} {f : Fo2} {ma mb : M D} (ho : OpR X (binaryOp op) rr) (hf : Fo2S X.K rr f) (ha : E X EW a ma) (hb : E X EW b mb) : EF X EW (.BinOp a op b pos) (f2 f ma mb) := by
  refine PE.weak (pe_op ho ha hb) ?_
  rintro σ H Q ⟨r, e, st, out, st', S, hE, h, P⟩
  refine bnd_stepO S hE h P fun r1 H1 x d st1 S1 x1 hE1 hd h1 => ?_
  have P1 := P.later S S1 x1
  refine bnd_stepO S1 hE1 h1 P1 fun r2 H2 y c st2 S2 x2 hE2 hc h2 => ?_
  have P2 := P1.later S1 S2 x2
  dsimp only at h2
  cases q : f d c st2 with
  | none => rw [q] at h2; cases h2
  | some ob =>
    rw [q] at h2
    cases h2
    exact hf r2 H2 _ d c x y ob Q S2 (hd.mono x2) hc q fun p o hp k => P2.lay S2 S2 (Ext.refl _ _ _) hp k
def pRep : Fo2 := fun x y st => match y with
  | .int k => match lstOf x st with
    | some a => if -(2 ^ 63) ≤ k ∧ k < 2 ^ 63 ∧ a.length * k.toNat ≤ sizeLine then some (.lst (List.replicate k.toNat a).flatten) else none
    | none => none
  | _ => none
theorem pRep_ok {K : PySem.W.Frag} : Fo2S K rRep pRep := by
  intro r H st d c x y ob Q S hd hc h P
  unfold pRep at h
  split at h
  · split at h
    · rename_i q1
      split at h
      · rename_i hh
        obtain ⟨h1, h2, h3⟩ := hh
        cases h
        rw [hc.int_]
        obtain ⟨a, vs, rfl, s, t⟩ := lstOf_ok S hd q1
        exact ⟨a, _, vs, rfl, rfl, s, h1, h2, by rw [← t.length]; exact h3, fun p hp => P p _ hp ⟨_, rfl, t.rep _⟩⟩
      · cases h
    · cases h
  · cases h
def pCat : Fo2 := fun x y st => match lstOf x st, lstOf y st with
  | some a, some b => if a.length + b.length ≤ sizeLine then some (.lst (a ++ b)) else none
  | _, _ => none
theorem pCat_ok {K : PySem.W.Frag} : Fo2S K rCat pCat := by
  intro r H st d c x y ob Q S hd hc h P
  unfold pCat at h
  split at h
  · rename_i q1 q2
    split at h
    · rename_i hl
      cases h
      obtain ⟨a, vs, rfl, s, t⟩ := lstOf_ok S hd q1
      obtain ⟨b, ws, rfl, s2, t2⟩ := lstOf_ok S hc q2
      exact ⟨a, b, vs, ws, rfl, rfl, s, s2, by rw [← t.length, ← t2.length]; exact hl, fun p hp => P p _ hp ⟨_, rfl, t.append t2⟩⟩
    · cases h
  · cases h
end FW

set_option maxHeartbeats 4000000
namespace FW
open PySem PySem.Spec L2

/-! ### from a def's datum to its promise -/
abbrev FnP (K : PySem.W.Frag) (x : Str) (st : Stmt) (f : Addr) (fd : FuncData) : Prop := FunD K x x (defArgs st) (defBody st) (defScope st) [] [] f fd
theorem fun_of {K : PySem.W.Frag} {x : Str} {st : Stmt} {f : Addr} {fd : FuncData} (F : FnP K x st f fd) : Fun K x x st f fd := by
  obtain ⟨oc, od, dV, kV, doc, pm, an, cdv, ct, osl, h1, lk, hcd, hD, _⟩ := F.ex
  rcases hD with ⟨_, rfl⟩ | ⟨e, _⟩
  · exact ⟨⟨oc, od, kV, doc, pm, an, cdv, ct, osl, h1, lk, hcd⟩, F.kp⟩
  · exact absurd rfl e
def ClG (P : Program) (w : World) (K : PySem.W.Frag) (mg : Str → Option Value) (base : Heap) (k : Nat) (x : Str) (n : Nat) (F : Fn0) : Prop :=
  ∃ (f : Addr) (fd : FuncData) (ps : List Str), FnG P w K mg base CX0 k f fd ps (spF K n F) ∧ mg x = some (.ref f) ∧ PySem.W.keepIn K (.ref f) = true ∧ Binds K fd ps []
section
variable {P : Program} {w : World} {K : PySem.W.Frag} {mg : Str → Option Value} {base : Heap}
theorem u1 {j : Nat} {A : Around} (h : Room j A) : A.units + 1 < cLine := by have := h.un; omega
theorem u64 {j : Nat} {A : Around} (h : Room j A) : A.units + 64 < cLine := by have := h.un; omega
theorem u66 {j : Nat} {A : Around} (h : Room j A) : A.units + 66 < cLine := by have := h.un; omega
/-- what the body is worth | what is told of it -/
def Tell (n : Nat) (F G : Fn0) : Prop := ∀ ds st d st', Lts st.length ds → Wf st → ds.length = n → G ds st = some (d, st') → ∃ d1 st1, F ds st = some (d1, st1) ∧ Cut st1 st.length st' ∧ Fz st1 st.length d1 d
theorem cl_tell {k n : Nat} {x : Str} {F G : Fn0} (h : ClG P w K mg base k x n F) (t : Tell n F G) : ClG P w K mg base k x n G := by
  obtain ⟨f, fd, ps, h1, h2, h3, h4⟩ := h
  exact ⟨f, fd, ps, fn_tell h1 t, h2, h3, h4⟩
/-- told as it is, at some arguments alone -/
theorem cl_imp {k n : Nat} {x : Str} {F G : Fn0} (h : ClG P w K mg base k x n F) (t : ∀ ds st d st', Lts st.length ds → Wf st → ds.length = n → G ds st = some (d, st') → F ds st = some (d, st')) : ClG P w K mg base k x n G := by
  obtain ⟨f, fd, ps, h1, h2, h3, h4⟩ := h
  refine ⟨f, fd, ps, fn_imp h1 fun r H st ds vs d st' Q S hd hl hG P => ?_, h2, h3, h4⟩
  have lt := hd.lt
  rw [S.len] at lt
  exact ⟨d, st', t ds st d st' lt S.wf hl hG, P⟩
theorem cl_of {k n : Nat} {x : Str} {st : Stmt} {f : Addr} {fd : FuncData} {ps : List Str} {F : Fn0} (D : FnP K x st f fd) (gm : mg x = some (.ref f)) (h : FnG P w K mg base CX0 k f fd ps (spF K n F))
    (b : ∀ (kV doc pm : Value) (an : Option Addr) (cdv ct : Value) (us : List Value), us.length = ps.length → bindArgs (PySem.W.fnOf x x (defArgs st) (defBody st) (defScope st) .none kV doc pm an cdv ct) ⟨us, []⟩ = pure (ps.zip us)) : ClG P w K mg base k x n F :=
  ⟨f, fd, ps, h, gm, D.kp, D.bindsN b⟩
end
end FW

set_option maxHeartbeats 4000000
namespace FW
open PySem L2

/-! ### mirrors, worked out -/
section
variable {α β : Type} {e : Env} {st : Store}
@[simp] theorem ev_bnd_ok {a : α} {k : α → Store → Option (Res β × Store)} : bnd (some (.ok a, st)) k = k a st := id rfl
@[simp] theorem ev_bndS_ok {a : α} {k : α → Store → Option (SR × Store)} : bndS (some (.ok a, st)) e k = k a st := id rfl
@[simp] theorem ev_ok0 {a : α} : ok0 (some (a, st)) = some (.ok a, st) := id rfl
@[simp] theorem ev_xbnd {m : M α} {k : α → M β} : xbnd m k e st = bnd (m e st) fun a st1 => k a e st1 := id rfl
@[simp] theorem ev_xC {d : D} : xC d e st = some (.ok d, st) := id rfl
@[simp] theorem ev_x1 {f : F1} {a : M D} : x1 f a e st = bnd (a e st) fun d st1 => ok0 (f d st1) := id rfl
@[simp] theorem ev_x2 {f : F2} {a b : M D} : x2 f a b e st = bnd (a e st) fun d st1 => bnd (b e st1) fun c st2 => ok0 (f d c st2) := id rfl
@[simp] theorem ev_aN : aN e st = some (.ok [], st) := id rfl
@[simp] theorem ev_aC {a : M D} {as : M (List D)} : aC a as e st = bnd (a e st) fun d st1 => bnd (as e st1) fun ds st2 => some (.ok (d :: ds), st2) := id rfl
@[simp] theorem ev_xN {F : Fn0} {as : M (List D)} : xN F as e st = bnd (as e st) fun ds st1 => ok0 (F ds st1) := id rfl
@[simp] theorem ev_xCl {n : Nat} {F : Fn0} {as : M (List D)} : xCl n F as e st = bnd (as e st) fun ds st1 => ok0 (if ds.length = n then F ds st1 else none) := id rfl
@[simp] theorem ev_xTup {as : M (List D)} : xTup as e st = bnd (as e st) fun ds st1 => if ds.length ≤ sizeLine then some (.ok (.tup ds), st1) else none := id rfl
@[simp] theorem ev_xLst {as : M (List D)} : xLst as e st = bnd (as e st) fun ds st1 => if ds.length ≤ sizeLine then some (.ok (.lst ds), st1) else none := id rfl
@[simp] theorem ev_xNew {a : M Ob} : xNew a e st = bnd (a e st) fun o st1 => some (.ok (.ref st1.length), st1 ++ [o]) := id rfl
@[simp] theorem ev_xVal {a : M Ob} : xVal a e st = bnd (a e st) fun o st1 => match o with
  | .lst ds => some (.ok (.lst ds), st1)
  | .dct ks ds => some (.ok (.dct ks ds), st1)
  | .flst _ => none
  | .fdct _ _ => none := id rfl
@[simp] theorem ev_xV {i : Nat} {d : D} (h : e[i]? = some (some d)) : xV i e st = some (.ok d, st) := by unfold xV; rw [h]
@[simp] theorem ev_fCall {F : Fo0} {as : M (List D)} : fCall F as e st = bnd (as e st) fun ds st1 => match F ds st1 with
  | some ob => some (.ok ob, st1)
  | none => none := id rfl
@[simp] theorem ev_fDct0 : fDct0 e st = some (.ok (.dct [] []), st) := id rfl
@[simp] theorem ev_f2 {f : Fo2} {a b : M D} : f2 f a b e st = bnd (a e st) fun d st1 => bnd (b e st1) fun c st2 => match f d c st2 with
  | some ob => some (.ok ob, st2)
  | none => none := id rfl
@[simp] theorem ev_xMeth {T : Ty} {f : FM} {o : M D} {as : M (List D)} : xMeth T f o as e st = bnd (o e st) fun d st1 => if tyD T d st1 = true then bnd (as e st1) fun ds st2 => ok0 (f d ds st2) else none := id rfl
@[simp] theorem ev_pN : pN e st = some (.ok none, st) := id rfl
@[simp] theorem ev_pS {m : M D} : pS m e st = bnd (m e st) fun d st1 => match d with
  | .int i => some (.ok (some i), st1)
  | _ => none := id rfl
@[simp] theorem ev_xSl {f : FSl} {a : M D} {lo hi : M (Option Int)} : xSl f a lo hi e st = bnd (a e st) fun d st1 => bnd (lo e st1) fun l st2 => bnd (hi e st2) fun u st3 => ok0 (f d l u st3) := id rfl
@[simp] theorem ev_aStar {a : M D} {as : M (List D)} : aStar a as e st = bnd (a e st) fun d st1 => match seqOf d st1 with
  | some ds => bnd (as e st1) fun cs st2 => some (.ok (ds ++ cs), st2)
  | none => none := id rfl
@[simp] theorem ev_xTupR {f : FR} {m : M (List D)} : xTupR f m e st = bnd (m e st) fun ds st1 => match f ds with
  | some (lo, c, n) => if n ≤ 2 ^ 16 then some (.ok (.tup (rngC lo c n)), st1) else none
  | none => none := id rfl
@[simp] theorem ev_iOf {f : FI} {m : M (List D)} : iOf f m e st = bnd (m e st) fun ds st1 => match f ds st1 with
  | some i => some (.ok i, st1)
  | none => none := id rfl
@[simp] theorem ev_iSeq {m : M D} : iSeq m e st = bnd (m e st) fun d st1 => match itV d st1 with
  | some i => some (.ok i, st1)
  | none => none := id rfl
@[simp] theorem ev_xTst {m : M D} : xTst m e st = bnd (m e st) fun d st1 => match d with
  | .bl b => some (.ok b, st1)
  | _ => none := id rfl
@[simp] theorem ev_xYes : xYes e st = some (.ok true, st) := id rfl
@[simp] theorem ev_sNil : sNil e st = some (.nx e, st) := id rfl
@[simp] theorem ev_sEx {m : M D} : sEx m e st = bndS (m e st) e fun _ st1 => some (.nx e, st1) := id rfl
@[simp] theorem ev_sRet {m : M D} : sRet m e st = bndS (m e st) e fun d st1 => some (.rt d, st1) := id rfl
@[simp] theorem ev_sIf {t : M Bool} {a b : MS} : sIf t a b e st = bndS (t e st) e fun c st1 => if c = true then a e st1 else b e st1 := id rfl
@[simp] theorem ev_sAsg {m : M D} {g : MG} : sAsg m g e st = bndS (m e st) e fun d st1 => (g d e st1).map fun p => (.nx p.1, p.2) := id rfl
@[simp] theorem ev_gN {i : Nat} {d : D} : gN i d e st = some (e.set i (some d), st) := id rfl
@[simp] theorem ev_gsN : gsN [] e st = some (e, st) := id rfl
@[simp] theorem ev_sFor {it : M Itm} {g : MG} {b : MS} : sFor it g b e st = bndS (it e st) e fun i st1 => forL i g b i.ds e st1 := id rfl
theorem ev_sAug {i : Nat} {f : F2} {m : M D} {x : D} (h : e[i]? = some (some x)) : sAug i f m e st = bndS (m e st) e fun y st1 => (f x y st1).map fun p => (.nx (e.set i (some p.1)), p.2) := by unfold sAug; rw [h]
@[simp] theorem ev_sAugS {f : F2} {mo mi m : M D} : sAugS f mo mi m e st = bndS (mo e st) e fun o st1 => bndS (mi e st1) e fun i st2 => match oGetM o i st2 with
  | some (x, st3) => bndS (m e st3) e fun y st4 => match f x y st4 with
    | some (z, st5) => (setIx o i z st5).map fun st6 => (.nx e, st6)
    | none => none
  | none => none := id rfl
@[simp] theorem ev_sPar {is : List Nat} {m : M (List D)} : sPar is m e st = bndS (m e st) e fun ds st1 => if ds.length = is.length then some (.nx ((is.zip ds).foldl (fun e p => e.set p.1 (some p.2)) e), st1) else none := id rfl
end
/-- one statement behind the other -/
@[simp] theorem ev_sSeq {m n : MS} {e e1 : Env} {st st1 : Store} (h : m e st = some (.nx e1, st1)) : sSeq m n e st = n e1 st1 := by unfold sSeq; rw [h]
theorem ev_sSeq_rt {m n : MS} {e : Env} {st st1 : Store} {d : D} (h : m e st = some (.rt d, st1)) : sSeq m n e st = some (.rt d, st1) := by unfold sSeq; rw [h]
theorem ev_sSeq_ {m n : MS} {e : Env} {st : Store} : sSeq m n e st = match m e st with
  | some (.nx e1, st1) => n e1 st1
  | o => o := by
  unfold sSeq
  cases m e st with
  | none => rfl
  | some p =>
    obtain ⟨o, s⟩ := p
    cases o <;> rfl
@[simp] theorem ev_addI {i j : Int} {st : Store} : oAdd (.int i) (.int j) st = some (.int (i + j), st) := id rfl
@[simp] theorem ev_subI {i j : Int} {st : Store} : oSub (.int i) (.int j) st = some (.int (i - j), st) := id rfl
@[simp] theorem ev_negI {i : Int} {st : Store} : oNeg (.int i) st = some (.int (-i), st) := id rfl
theorem ev_mulI {i j : Int} {st : Store} (h : -(2 ^ 64) < i ∧ i < 2 ^ 64 ∨ -(2 ^ 64) < j ∧ j < 2 ^ 64) : oMul (.int i) (.int j) st = some (.int (i * j), st) := if_pos h
theorem ev_divI {i j : Int} {st : Store} (h : 0 < j) (h2 : j < 1073741824) : oFdiv (.int i) (.int j) st = some (.int (i / j), st) := if_pos ⟨h, h2⟩
theorem ev_modI {i j : Int} {st : Store} (h : 0 < j) : oMod (.int i) (.int j) st = some (.int (i % j), st) := if_pos h
@[simp] theorem ev_intI {i : Int} {st : Store} : fInt [.int i] st = some (.int i, st) := id rfl
theorem pd_int {i : Int} {st : Store} : PD st (.int i) (.int i) := .int i
theorem sh_int {i : Int} : SeqAt.shaped (.int i) = true := by simp [SeqAt.shaped, PyData.canLay0, PyData.depth]
theorem ev_eqI {i j : Int} {st : Store} : oEqA (.int i) (.int j) st = some (.bl (i == j), st) := by
  show oData PyData.eqv _ _ _ = _
  rw [oData_of (.int i) (.int j) sh_int sh_int]
  simp [PyData.eqv]
theorem ev_neI {i j : Int} {st : Store} : oNe (.int i) (.int j) st = some (.bl (!(i == j)), st) := by
  show oData (fun p q => !PyData.eqv p q) _ _ _ = _
  rw [oData_of (.int i) (.int j) sh_int sh_int]
  simp [PyData.eqv]
@[simp] theorem ev_cmpI {p : Int → Int → Bool} {q : List Nat → List Nat → Bool} {i j : Int} {st : Store} : oCmp p q (.int i) (.int j) st = some (.bl (p i j), st) := id rfl
theorem sizeLine_big : (1000000 : Nat) ≤ sizeLine := by rw [sizeLine_eq]; decide
/-! ### runs -/
theorem runF_rt {n : Nat} {m : MS} {ds : List D} {st st' : Store} {d : D} (h : m (env0 n ds) st = some (.rt d, st')) : runF n m ds st = some (d, st') := by unfold runF; rw [h]
/-! ### while -/
/-- the while statement ends so -/
def WhR (c : M Bool) (b : MS) (e : Env) (st : Store) (o : SR × Store) : Prop := ∃ n, whN c b n e st = some o
theorem whN_succ {c : M Bool} {b : MS} : ∀ {n : Nat} {e : Env} {st : Store} {o : SR × Store}, whN c b n e st = some o → whN c b (n + 1) e st = some o
  | 0, _, _, _, h => by cases h
  | n + 1, e, st, o, h => by
    unfold whN at h ⊢
    cases q : c e st with
    | none => rw [q] at h; cases h
    | some p =>
      obtain ⟨r, st1⟩ := p
      rw [q] at h
      cases r with
      | exc x => exact h
      | ok k =>
        rw [ev_bndS_ok] at h ⊢
        cases k with
        | false => exact h
        | true =>
          rw [if_pos rfl] at h ⊢
          cases q2 : b e st1 with
          | none => rw [q2] at h; cases h
          | some p =>
            obtain ⟨r2, st2⟩ := p
            rw [q2] at h
            cases r2 with
            | nx e2 => exact whN_succ h
            | ct e2 => exact whN_succ h
            | bk e2 => exact h
            | rt d => exact h
            | exc x e2 => exact h
theorem whN_le {c : M Bool} {b : MS} {n m : Nat} {e : Env} {st : Store} {o : SR × Store} (h : whN c b n e st = some o) (l : n ≤ m) : whN c b m e st = some o := by
  induction l with
  | refl => exact h
  | step _ ih => exact whN_succ ih
theorem ev_while {c : M Bool} {b : MS} {e : Env} {st : Store} {o : SR × Store} (h : WhR c b e st o) : sWhile c b e st = some o := by
  obtain ⟨n, h⟩ := h
  have hx : ∃ n, (whN c b n e st).isSome = true := ⟨n, by rw [h] <;> rfl⟩
  unfold sWhile
  rw [dif_pos hx]
  have s := Classical.choose_spec hx
  generalize Classical.choose hx = m at s
  cases q : whN c b m e st with
  | none => rw [q] at s; cases s
  | some o2 =>
    rcases Nat.le_total n m with l | l
    · exact (whN_le h l ▸ q).symm
    · rw [whN_le q l] at h; exact h
theorem WhR.stop {c : M Bool} {b : MS} {e : Env} {st st1 : Store} (h : c e st = some (.ok false, st1)) : WhR c b e st (.nx e, st1) := ⟨1, by unfold whN; rw [h]; rfl⟩
theorem WhR.next {c : M Bool} {b : MS} {e e2 : Env} {st st1 st2 : Store} {o : SR × Store} (h : c e st = some (.ok true, st1)) (h2 : b e st1 = some (.nx e2, st2)) (w : WhR c b e2 st2 o) : WhR c b e st o := by
  obtain ⟨n, w⟩ := w
  refine ⟨n + 1, ?_⟩
  unfold whN
  rw [h, ev_bndS_ok, if_pos rfl, h2]
  exact w
/-! ### for -/
theorem ev_for_nil {it : Itm} {g : MG} {b : MS} {e : Env} {st : Store} (h : it.hold st) : forL it g b [] e st = some (.nx e, st) := by unfold forL; rw [if_pos h]
theorem ev_for_cons {it : Itm} {g : MG} {b : MS} {d : D} {ds : List D} {e e1 e2 : Env} {st st1 st2 : Store} (h : it.hold st) (h1 : g d e st = some (e1, st1)) (h2 : b e1 st1 = some (.nx e2, st2)) : forL it g b (d :: ds) e st = forL it g b ds e2 st2 := by
  rw [forL, if_pos h, h1]
  simp only [h2]
theorem ev_for_ret {it : Itm} {g : MG} {b : MS} {d v : D} {ds : List D} {e e1 : Env} {st st1 st2 : Store} (h : it.hold st) (h1 : g d e st = some (e1, st1)) (h2 : b e1 st1 = some (.rt v, st2)) : forL it g b (d :: ds) e st = some (.rt v, st2) := by
  rw [forL, if_pos h, h1]
  simp only [h2]
/-! ### comprehensions -/
theorem ev_xLc {vs : List Nat} {it : M Itm} {g : MG} {t : M Bool} {el : M D} {e : Env} {st : Store} : xLc vs it g t el e st = bnd (it e st) fun i st1 => lcL i g t el (wipeE e vs) i.ds [] st1 := rfl
/-- no test; each element leaves the store as it is -/
theorem lcL_map {it : Itm} {g : MG} {el : M D} {e : Env} {st : Store} (hh : it.hold st) : ∀ (ds acc : List D) (f : D → D) (e1 : D → Env), (∀ d ∈ ds, g d e st = some (e1 d, st) ∧ el (e1 d) st = some (.ok (f d), st)) → acc.length + ds.length ≤ sizeLine →
    lcL it g xYes el e ds acc st = some (.ok (.lst (acc ++ ds.map f)), st)
  | [], acc, f, e1, _, _ => by rw [lcL, if_pos hh]; simp
  | d :: ds, acc, f, e1, h, hl => by
    obtain ⟨h1, h2⟩ := h d (by simp)
    simp only [List.length_cons] at hl
    rw [lcL, if_pos hh, h1]
    simp only [ev_xYes, h2]
    rw [if_pos (by omega), lcL_map hh ds (acc ++ [f d]) f e1 (fun x hx => h x (List.mem_cons_of_mem _ hx)) (by simp only [List.length_append, List.length_singleton]; omega)]
    simp
/-- with a test -/
theorem lcL_filter {it : Itm} {g : MG} {t : M Bool} {el : M D} {e : Env} {st : Store} (hh : it.hold st) : ∀ (ds acc : List D) (p : D → Bool) (f : D → D) (e1 : D → Env), (∀ d ∈ ds, g d e st = some (e1 d, st) ∧ t (e1 d) st = some (.ok (p d), st) ∧ (p d = true → el (e1 d) st = some (.ok (f d), st))) → acc.length + ds.length ≤ sizeLine →
    lcL it g t el e ds acc st = some (.ok (.lst (acc ++ (ds.filter p).map f)), st)
  | [], acc, p, f, e1, _, _ => by rw [lcL, if_pos hh]; simp
  | d :: ds, acc, p, f, e1, h, hl => by
    obtain ⟨h1, h2, h3⟩ := h d (by simp)
    simp only [List.length_cons] at hl
    rw [lcL, if_pos hh, h1]
    simp only [h2]
    cases q : p d with
    | false =>
      simp only [List.filter_cons, q]
      exact lcL_filter hh ds acc p f e1 (fun x hx => h x (List.mem_cons_of_mem _ hx)) (by omega)
    | true =>
      simp only [h3 q, List.filter_cons, q]
      rw [if_pos (by omega), lcL_filter hh ds (acc ++ [f d]) p f e1 (fun x hx => h x (List.mem_cons_of_mem _ hx)) (by simp only [List.length_append, List.length_singleton]; omega)]
      simp
/-! ### sequences of ints -/
def iD (ns : List Int) : List D := ns.map D.int
@[simp] theorem iD_length {ns : List Int} : (iD ns).length = ns.length := by simp [iD]
@[simp] theorem iD_nil : iD [] = [] := rfl
@[simp] theorem iD_cons {n : Int} {ns : List Int} : iD (n :: ns) = .int n :: iD ns := rfl
@[simp] theorem iD_append {a b : List Int} : iD (a ++ b) = iD a ++ iD b := by simp [iD]
theorem iD_inj {a b : List Int} (h : iD a = iD b) : a = b := by
  induction a generalizing b with
  | nil => cases b with
    | nil => rfl
    | cons => cases h
  | cons x xs ih => cases b with
    | nil => cases h
    | cons y ys =>
      simp only [iD_cons, List.cons.injEq, D.int.injEq] at h
      rw [h.1, ih h.2]
theorem intsD_iD (ns : List Int) : intsD (iD ns) = some ns := intsD_map ns
theorem iD_mem {d : D} {ns : List Int} : d ∈ iD ns ↔ ∃ n ∈ ns, d = .int n := by simp [iD, eq_comm]
theorem atI_nat {α : Type} {xs : List α} {i : Nat} : atI xs (i : Int) = xs[i]? := by
  unfold atI ixN
  rw [if_pos (by omega)]
  by_cases h : (i : Int) < (xs.length : Int)
  · rw [if_pos h]; simp
  · rw [if_neg h]
    have : xs[i]? = none := by rw [List.getElem?_eq_none_iff]; omega
    rw [this]; rfl
theorem ev_ixT {ds : List D} {x : Int} {i : Nat} {d : D} {st : Store} (hx : x = (i : Int)) (h : ds[i]? = some d) : oIx (.tup ds) (.int x) st = some (d, st) := by
  subst hx
  simp only [oIx, seqOf, atI_nat, h]
theorem ev_ixL {ds : List D} {x : Int} {i : Nat} {d : D} {st : Store} (hx : x = (i : Int)) (h : ds[i]? = some d) : oIx (.lst ds) (.int x) st = some (d, st) := by
  subst hx
  simp only [oIx, seqOf, rdlOf, atI_nat, h]
theorem ev_ixR {n : Nat} {ds : List D} {x : Int} {i : Nat} {d : D} {st : Store} (e : st[n]? = some (.lst ds)) (hx : x = (i : Int)) (h : ds[i]? = some d) : oIx (.ref n) (.int x) st = some (d, st) := by
  subst hx
  simp only [oIx, seqOf, rdlOf, e, atI_nat, h]
theorem iD_get {ns : List Int} {i : Nat} {w : Int} (h : ns[i]? = some w) : (iD ns)[i]? = some (.int w) := by simp [iD, h]
theorem cutD_nat {ds : List D} {a b : Nat} (h : a ≤ b) (hb : b ≤ ds.length) : cutD ds (some (a : Int)) (some (b : Int)) = (ds.drop a).take (b - a) := by
  unfold cutD
  rw [HT.sIx_nat, HT.sIx_nat, Nat.min_eq_left hb, Nat.min_eq_left (by omega)]
theorem ev_slT {ds : List D} {x y : Int} {a b : Nat} {st : Store} (hx : x = (a : Int)) (hy : y = (b : Int)) (h : a ≤ b) (hb : b ≤ ds.length) : oSl (.tup ds) (some x) (some y) st = some (.tup ((ds.drop a).take (b - a)), st) := by
  subst hx hy
  show some (D.tup (cutD ds _ _), st) = _
  rw [cutD_nat h hb]
theorem iD_cut {ns : List Int} {a b : Nat} : ((iD ns).drop a).take b = iD ((ns.drop a).take b) := by simp [iD, List.map_take, List.map_drop]
theorem ev_tupT {ds : List D} {st : Store} : fTuple [.tup ds] st = some (.tup ds, st) := rfl
theorem ev_if_t {t : M Bool} {a b : MS} {e : Env} {st st1 : Store} (h : t e st = some (.ok true, st1)) : sIf t a b e st = a e st1 := by rw [ev_sIf, h, ev_bndS_ok, if_pos rfl]
theorem ev_if_f {t : M Bool} {a b : MS} {e : Env} {st st1 : Store} (h : t e st = some (.ok false, st1)) : sIf t a b e st = b e st1 := by rw [ev_sIf, h, ev_bndS_ok, if_neg Bool.false_ne_true]
theorem ev_set_get {st : Store} {b : Nat} {o : Ob} (h : b < st.length) : (st.set b o)[b]? = some o := by simp [h]
theorem ev_gIx {mo mi : M D} {d : D} {e : Env} {st st1 st2 : Store} {o i : D} (h1 : mo e st = some (.ok o, st1)) (h2 : mi e st1 = some (.ok i, st2)) : gIx mo mi d e st = (setIx o i d st2).map fun st3 => (e, st3) := by unfold gIx; rw [h1]; simp only [h2]
@[simp] theorem ev_gIxV {i j : Nat} {d o k : D} {e : Env} {st : Store} (h1 : e[i]? = some (some o)) (h2 : e[j]? = some (some k)) : gIx (xV i) (xV j) d e st = (setIx o k d st).map fun st3 => (e, st3) := ev_gIx (ev_xV h1) (ev_xV h2)
@[simp] theorem ev_gIxC {i : Nat} {d o k : D} {e : Env} {st : Store} (h1 : e[i]? = some (some o)) : gIx (xV i) (xC k) d e st = (setIx o k d st).map fun st3 => (e, st3) := ev_gIx (ev_xV h1) ev_xC
theorem ev_and_t {a b : M Bool} {e : Env} {st st1 : Store} (h : a e st = some (.ok true, st1)) : xAnd a b e st = b e st1 := by unfold xAnd; rw [ev_xbnd, h, ev_bnd_ok, if_pos rfl]
theorem ev_and_f {a b : M Bool} {e : Env} {st st1 : Store} (h : a e st = some (.ok false, st1)) : xAnd a b e st = some (.ok false, st1) := by unfold xAnd; rw [ev_xbnd, h, ev_bnd_ok, if_neg Bool.false_ne_true]
theorem ev_or_t {a b : M Bool} {e : Env} {st st1 : Store} (h : a e st = some (.ok true, st1)) : xOr a b e st = some (.ok true, st1) := by unfold xOr; rw [ev_xbnd, h, ev_bnd_ok, if_pos rfl]
theorem ev_or_f {a b : M Bool} {e : Env} {st st1 : Store} (h : a e st = some (.ok false, st1)) : xOr a b e st = b e st1 := by unfold xOr; rw [ev_xbnd, h, ev_bnd_ok, if_neg Bool.false_ne_true]
theorem ev_xIf_t {α : Type} {t : M Bool} {a b : M α} {e : Env} {st st1 : Store} (h : t e st = some (.ok true, st1)) : xIf t a b e st = a e st1 := by unfold xIf; rw [ev_xbnd, h, ev_bnd_ok, if_pos rfl]
theorem ev_xIf_f {α : Type} {t : M Bool} {a b : M α} {e : Env} {st st1 : Store} (h : t e st = some (.ok false, st1)) : xIf t a b e st = b e st1 := by unfold xIf; rw [ev_xbnd, h, ev_bnd_ok, if_neg Bool.false_ne_true]
end FW

set_option maxHeartbeats 4000000
namespace FW
open PySem L2

/-! ### what is told of a def that makes objects of its own: they are values then -/
mutual
theorem Fz.det {st : Store} {n : Nat} : ∀ {d x y : D}, Fz st n d x → Fz st n d y → x = y
  | _, _, _, .non, .non => rfl
  | _, _, _, .bl _, .bl _ => rfl
  | _, _, _, .int _, .int _ => rfl
  | _, _, _, .str _, .str _ => rfl
  | _, _, _, .cst _, .cst _ => rfl
  | _, _, _, .oth _, .oth _ => rfl
  | _, _, _, .ref _ _, .ref _ _ => rfl
  | _, _, _, .ref _ h, .olst h2 _ _ => by omega
  | _, _, _, .ref _ h, .odct h2 _ _ => by omega
  | _, _, _, .tup h, .tup h2 => by rw [Fzs.det h h2]
  | _, _, _, .ztp h, .ztp h2 => by rw [Fzs.det h h2]
  | _, _, _, .lst h, .lst h2 => by rw [Fzs.det h h2]
  | _, _, _, .dct h, .dct h2 => by rw [Fzs.det h h2]
  | _, _, _, .olst h _ _, .ref _ h2 => by omega
  | _, _, _, .olst _ e h, .olst _ e2 h2 => by
    rw [e] at e2
    cases e2
    rw [Fzs.det h h2]
  | _, _, _, .olst _ e h, .odct _ e2 h2 => by rw [e] at e2; cases e2
  | _, _, _, .odct h _ _, .ref _ h2 => by omega
  | _, _, _, .odct _ e h, .olst _ e2 h2 => by rw [e] at e2; cases e2
  | _, _, _, .odct _ e h, .odct _ e2 h2 => by
    rw [e] at e2
    cases e2
    rw [Fzs.det h h2]
theorem Fzs.det {st : Store} {n : Nat} : ∀ {d x y : List D}, Fzs st n d x → Fzs st n d y → x = y
  | _, _, _, .nil, .nil => rfl
  | _, _, _, .cons h t, .cons h2 t2 => by rw [Fz.det h h2, Fzs.det t t2]
end
theorem Cut.det {st1 : Store} {n : Nat} {a b : Store} (h : Cut st1 n a) (k : Cut st1 n b) : a = b := by
  apply List.ext_getElem?
  intro i
  by_cases hi : i < n
  · have l1 : i < st1.length := Nat.lt_of_lt_of_le hi h.le
    obtain ⟨o, ho⟩ : ∃ o, st1[i]? = some o := ⟨st1[i], by simp [l1]⟩
    obtain ⟨x, hx, p⟩ := h.ob i o hi ho
    obtain ⟨y, hy, q⟩ := k.ob i o hi ho
    rw [hx, hy]
    cases o <;> cases x <;> cases y <;> first
      | exact p.elim
      | exact q.elim
      | (rw [Fzs.det p q])
      | (rw [← p.1, ← q.1, Fzs.det p.2 q.2])
  · rw [List.getElem?_eq_none_iff.mpr (by rw [h.len]; omega), List.getElem?_eq_none_iff.mpr (by rw [k.len]; omega)]
open Classical in
noncomputable def tellF (F : Fn0) : Fn0 := fun ds st => if h : ∃ z : D × Store, ∃ d1 st1, F ds st = some (d1, st1) ∧ Cut st1 st.length z.2 ∧ Fz st1 st.length d1 z.1 then some (choose h) else none
theorem tell_ok {n : Nat} {F : Fn0} : Tell n F (tellF F) := by
  intro ds st d st' _ _ _ h
  unfold tellF at h
  split at h
  · rename_i hh
    have s := Classical.choose_spec hh
    have e := Option.some.inj h
    rw [e] at s
    exact s
  · cases h
theorem tell_of {F : Fn0} {ds : List D} {st st1 st' : Store} {d1 d : D} (h : F ds st = some (d1, st1)) (c : Cut st1 st.length st') (f : Fz st1 st.length d1 d) : tellF F ds st = some (d, st') := by
  have hh : ∃ z : D × Store, ∃ d1 st1, F ds st = some (d1, st1) ∧ Cut st1 st.length z.2 ∧ Fz st1 st.length d1 z.1 := ⟨(d, st'), d1, st1, h, c, f⟩
  unfold tellF
  rw [dif_pos hh]
  have s := Classical.choose_spec hh
  generalize Classical.choose hh = z at s
  obtain ⟨x, y, h1, c1, f1⟩ := s
  rw [h] at h1
  cases h1
  rw [show z = (z.1, z.2) from rfl, c1.det c, f1.det f]
/-- its own objects alone came; none of them stands in the answer -/
theorem tell_flat {F : Fn0} {ds : List D} {st g : Store} {d : D} (w : Wf st) (h : F ds st = some (d, st ++ g)) (l : Lt st.length d) : tellF F ds st = some (d, st) := tell_of h (Cut.same w) (Fz.refl l)
mutual
theorem Lt.le {n m : Nat} (hnm : n ≤ m) : ∀ {d : D}, Lt n d → Lt m d
  | .non, _ => by simp [Lt]
  | .bl _, _ => by simp [Lt]
  | .int _, _ => by simp [Lt]
  | .str _, _ => by simp [Lt]
  | .cst _, _ => by simp [Lt]
  | .oth _, _ => by simp [Lt]
  | .tup ds, h => by simp only [Lt] at h ⊢; exact Lts.le hnm h
  | .ztp ds, h => by simp only [Lt] at h ⊢; exact Lts.le hnm h
  | .lst ds, h => by simp only [Lt] at h ⊢; exact Lts.le hnm h
  | .dct ks ds, h => by simp only [Lt] at h ⊢; exact Lts.le hnm h
  | .ref k, h => by simp only [Lt] at h ⊢; omega
theorem Lts.le {n m : Nat} (hnm : n ≤ m) : ∀ {ds : List D}, Lts n ds → Lts m ds
  | [], _ => by simp [Lts]
  | d :: ds, h => by simp only [Lts] at h ⊢; exact ⟨Lt.le hnm h.1, Lts.le hnm h.2⟩
end
theorem lts_iD {n : Nat} : ∀ {ns : List Int}, Lts n (iD ns)
  | [] => by simp [Lts]
  | _ :: ns => by simp only [iD_cons, Lts, Lt]; exact ⟨trivial, lts_iD⟩
theorem Wf.app {st : Store} {g : Store} (w : Wf st) (h : ∀ o ∈ g, LtO (st ++ g).length o) : Wf (st ++ g) := fun o m => by
  rcases List.mem_append.mp m with m | m
  · have := w o m
    have le : st.length ≤ (st ++ g).length := by simp
    cases o with
    | lst ds => exact Lts.le le this
    | flst ds => exact Lts.le le this
    | dct ks ds => exact Lts.le le this
    | fdct ks ds => exact Lts.le le this
  · exact h o m
end FW

set_option maxHeartbeats 4000000
namespace FW
open PySem PySem.Spec PyProof.Rows L2

/-! ### more of dicts: update, dict(pairs), get, displays -/
noncomputable def mergeD : List D → List D → List D → List D → List D × List D
  | ks, ds, k :: ks2, d :: ds2 => mergeD (dPut ks ds k d).1 (dPut ks ds k d).2 ks2 ds2
  | ks, ds, _, _ => (ks, ds)
section
variable {K : PySem.W.Frag} {r : Ad} {H : Hp} {st : Store}
theorem mergeD_ok : ∀ {more : List (Key × V)} {ds2 : List D} {kvs : List (Key × V)} {ks ds : List D}, RDs K r H ds2 (more.map (·.2)) → ks = kvs.map (fun kv => kD kv.1) → RDs K r H ds (kvs.map (·.2)) →
    (mergeD ks ds (more.map fun kv => kD kv.1) ds2).1 = (mergeK kvs more).map (fun kv => kD kv.1) ∧ RDs K r H (mergeD ks ds (more.map fun kv => kD kv.1) ds2).2 ((mergeK kvs more).map (·.2))
  | [], ds2, kvs, ks, ds, _, e, h => by
    simp only [List.map_nil, mergeD]
    exact ⟨e, h⟩
  | (k, v) :: more, [], kvs, ks, ds, h2, e, h => by simp only [List.map_cons, RDs] at h2; cases h2
  | (k, v) :: more, d :: ds2, kvs, ks, ds, h2, e, h => by
    simp only [List.map_cons, RDs] at h2
    obtain ⟨v', r', e', h3, h4⟩ := h2
    cases e'
    subst e
    obtain ⟨p1, p2⟩ := dPut_ok (k := k) h3 h
    simp only [List.map_cons, mergeD]
    exact mergeD_ok (kvs := putK kvs k v) h4 p1 p2
theorem dct_ne {d : D} {n : Nat} {a b : Addr} {p : List D × List D} (S : Sim K r H st) (hd : RD K r H d (.ref b)) (e : dctOf d st = some p) (hn : r.r[n]? = some a) (h : isRef d n = false) : a ≠ b := by
  rintro rfl
  cases d with
  | dct ks ds =>
    simp only [RD] at hd
    obtain ⟨a', kvs, e', s, m, _⟩ := hd
    cases e'
    exact m.1 (List.mem_of_getElem? hn)
  | ref k =>
    simp only [RD] at hd
    obtain ⟨a', e1, e2⟩ := hd
    cases e2
    have := ix_inj S.nd e1 hn
    subst this
    simp [isRef] at h
  | _ => cases e
end
def rUpd : V → List V → Hp → VK → Prop := fun x vs H Q => ∃ (a b : Addr) (kvs more : List (Key × V)), x = .ref a ∧ vs = [.ref b] ∧ a ≠ b ∧ H a = some (.dK kvs) ∧ Rd H b (.dK more) ∧ kvs.length + more.length ≤ sizeLine ∧ Q .non (upd H a (.dK (mergeK kvs more)))
theorem mt_update {X : Cx} : MtR X "dict.update" rUpd := by
  intro pins s σ H x vs v us Q I rx rv h
  obtain ⟨a, b, kvs, more, rfl, rfl, ne, ha, hb, hz, q⟩ := h
  cases rx
  obtain ⟨u, rfl, ru⟩ := rv.one
  cases ru
  obtain ⟨z1, l1, vs1, r1, d1⟩ := dk_of I.hok ha
  obtain ⟨z2, l2, vs2, r2, d2⟩ := dk_rd I.hok hb
  refine call_meetsIn PySem.F.slot_dict_update d1.typeIs PySem.F.entry_dict_update (PySem.F.args_dict_update_2 _ _) (meets_dict_update (mixKind X.prog X.w) a b ne l2)
    ⟨vs1, vs2, d1, d2, by rw [← r1.length, ← r2.length]; exact hz, fun h' dd' _ hs => ?_⟩
  have he : ∃ q, h'.get? a = some q := let ⟨q, _, _, hq, _⟩ := dd'; ⟨q, hq⟩
  exact ⟨.non, _, d_write (t' := s.toks) I (by rw [ha]; exact True.intro) hs he (dk_new (Nat.le_trans (length_mergeK more kvs) hz) l1 (r2.merge r1) dd'), rfl, q⟩
noncomputable def mUpdate : FM := fun d as st => match mutD d st, as with
  | some (n, ks, ds), [e] => match dctOf e st with
    | some (ks2, ds2) => if isRef e n = false ∧ ks.length + ks2.length ≤ sizeLine then some (.non, st.set n (.dct (mergeD ks ds ks2 ds2).1 (mergeD ks ds ks2 ds2).2)) else none
    | none => none
  | _, _ => none
theorem mUpdate_ok {K : PySem.W.Frag} : MethS K rUpd mUpdate := by
  intro r H st d ds x vs z st' Q S hd hs h P
  unfold mUpdate at h
  split at h
  · rename_i n ks xs e e1
    split at h
    · rename_i ks2 ds2 e2
      split at h
      · rename_i hh
        obtain ⟨h1, h2⟩ := hh
        cases h
        obtain ⟨a, kvs, rfl, hn, s, k, t⟩ := mutD_ok S hd e1
        obtain ⟨w, rfl, hw⟩ := hs.one
        obtain ⟨b, more, rfl, s2, k2, t2⟩ := dctOf_ok S hw e2
        have ne := dct_ne S hw e2 hn h1
        obtain ⟨m1, m2⟩ := mergeD_ok (kvs := kvs) t2 k t
        rw [← k2] at m1 m2
        refine ⟨a, b, kvs, more, rfl, rfl, ne, s, s2, ?_, P.putD S hn m1 m2 RD.non0⟩
        rw [k, k2, List.length_map, List.length_map] at h2
        exact h2
      · cases h
    · cases h
  · cases h
end FW

set_option maxHeartbeats 4000000
namespace FW
open PySem PySem.Spec PyProof.Rows L2

/-! ### dict(xs): a list, a plain tuple of pairs -/
theorem pairs_at {X : Cx} {pins : List (Addr × Obj)} {σ : L2.St} {H : Hp} {s : Shared} (I : Inv X pins σ H s) : ∀ {ps : List Addr} {kvs : List (Key × V)}, Paired (fun p kv => SqT X.K H p [kV kv.1, kv.2]) ps kvs →
    ∃ (prs : List (Key × Value)) (us : List Value), KV kvs prs ∧ prs.length = ps.length ∧ us.length = ps.length ∧
      ∀ (j : Nat) (u : Value) (q : Key × Value), us[j]? = some u → prs[j]? = some q → IsTup s.heap (ps.getD j 0) #[u, q.2] ∧ keyIs q.1 u = true
  | _, _, .nil => ⟨[], [], .nil, rfl, rfl, fun j u q e => by simp at e⟩
  | _, _, .cons (a := p) (b := kv) h t => by
    obtain ⟨prs, us, r, h1, h2, h3⟩ := pairs_at I t
    obtain ⟨its, rv, ht, _⟩ := I.tuple h
    obtain ⟨u, y, ei, ru, ry⟩ := vals2 rv
    subst ei
    refine ⟨(kv.1, y) :: prs, u :: us, .cons ⟨rfl, ry⟩ r, by simp [h1], by simp [h2], ?_⟩
    intro j u' q e1 e2
    cases j with
    | zero =>
      simp only [List.getElem?_cons_zero, Option.some.injEq] at e1 e2
      subst e1 e2
      exact ⟨ht, kV_is (P := X.prog) (w := X.w) ru⟩
    | succ j =>
      simp only [List.getElem?_cons_succ] at e1 e2
      simpa using h3 j u' q e1 e2
def rDictP (K : PySem.W.Frag) : List V → Hp → VK → Prop := fun xs H Q => ∃ (a : Addr) (ps : List Addr) (kvs : List (Key × V)), xs = [.ref a] ∧ (SqL K H a (ps.map V.ref) ∨ TQ K H a (true, ps.map V.ref)) ∧ Paired (fun p kv => SqT K H p [kV kv.1, kv.2]) ps kvs ∧
    ∀ p, H p = none → Q (.ref p) (upd H p (.dK (mergeK [] kvs)))
theorem cr_dictP {X : Cx} (calm : X.calm = true) : CallR X (.type "dict") (rDictP X.K) := by
  intro pins s σ H xs us Q I r q
  obtain ⟨a, ps, kvs, rfl, hq, hp, q⟩ := q
  obtain ⟨u, rfl, rx⟩ := vals1 r
  cases rx
  obtain ⟨prs, us, rel, l1, l2, at_⟩ := pairs_at I hp
  have fin : ∀ (n : Nat), n = ps.length → n ≤ sizeLine → ∀ h' tk, h'.DictOf (mixKind X.prog X.w) s.heap.objs.size (merged [] prs) → (∀ b o, b ∉ ([] : List Addr) → s.heap.get? b = some o → h'.get? b = some o) → EP X pins σ Q (.ref s.heap.objs.size) { s with heap := h', toks := tk } := by
    intro n hn hz h' tk hd' k
    have hm : (s.heap.objs.size == sysModules) = false := beq_eq_false_iff_ne.mpr (Nat.ne_of_gt I.big)
    have hlen : (mergeK [] kvs).length ≤ sizeLine := by
      refine Nat.le_trans (length_mergeK kvs []) ?_
      rw [List.length_nil, Nat.zero_add, rel.length, l1, ← hn]
      exact hz
    exact ⟨.ref s.heap.objs.size, upd H s.heap.objs.size (.dK (mergeK [] kvs)), I.laid (t' := tk) (fun b o e => k b o (by simp) e) (Nat.le_refl _) (show ObjOk X.prog X.w _ _ _ (.dK (mergeK [] kvs)) from ⟨hlen, hm, merged [] prs, KV.merge rel .nil, hd'⟩), rfl, q _ (I.hok.fresh (Nat.le_refl _))⟩
  have wsl : (List.zipWith (fun u (q : Key × Value) => (u, q.2)) us prs).length = ps.length := by simp [l1, l2]
  have items : ∀ its : List Value, Vals (ps.map V.ref) its → PairItems s.heap its.toArray (fun j => ps.getD j 0) (List.zipWith (fun u (q : Key × Value) => (u, q.2)) us prs) := by
    intro its rv
    have e := refs_at rv
    subst e
    refine ⟨by rw [wsl]; simp, fun j k v e => ?_⟩
    rw [List.getElem?_zipWith] at e
    cases e1 : us[j]? with
    | none => rw [e1] at e; simp at e
    | some u =>
      cases e2 : prs[j]? with
      | none => rw [e1, e2] at e; simp at e
      | some q =>
        rw [e1, e2] at e
        simp only [Option.some.injEq, Prod.mk.injEq] at e
        obtain ⟨rfl, rfl⟩ := e
        obtain ⟨h1, h2⟩ := at_ j u q e1 e2
        have hj : j < ps.length := by rw [← l2]; exact (List.getElem?_eq_some_iff.mp e1).1
        refine ⟨?_, .inl h1⟩
        simp [List.getD_eq_getElem?_getD, hj]
  have have_ : PairsHave (mixKind X.prog X.w) (List.zipWith (fun u (q : Key × Value) => (u, q.2)) us prs).length (PairRel (List.zipWith (fun u (q : Key × Value) => (u, q.2)) us prs)) prs := by
    refine ⟨by rw [wsl, l1], fun i key v e => ?_⟩
    have e : (List.zipWith (fun u (q : Key × Value) => (u, q.2)) us prs)[i]? = some (key, v) := e
    rw [List.getElem?_zipWith] at e
    cases e1 : us[i]? with
    | none => rw [e1] at e; simp at e
    | some u =>
      cases e2 : prs[i]? with
      | none => rw [e1, e2] at e; simp at e
      | some q =>
        rw [e1, e2] at e
        simp only [Option.some.injEq, Prod.mk.injEq] at e
        obtain ⟨rfl, rfl⟩ := e
        exact ⟨q.1, rfl, (at_ i u q e1 e2).2⟩
  rcases hq with hq | hq
  · obtain ⟨its, rv, pl, hz⟩ := I.list hq
    rw [List.length_map] at hz
    exact PySem.call_dict_pairs (knd := mixKind X.prog X.w) (PairArg.list a its.toArray (fun j => ps.getD j 0) _) (I.ok.hd calm) ⟨pl, items its rv⟩ have_ (by rw [wsl]; exact hz) (fin _ wsl (by rw [wsl]; exact hz))
  · obtain ⟨its, rv, ht, hz⟩ := I.tuple hq.1
    have hz : ps.length ≤ sizeLine := by simpa using hz
    obtain ⟨o, ho, hc, n, hd⟩ := ht
    have dn : o.dict = none := by
      rcases hq.2 rfl with ⟨o', d', e⟩ | ⟨o', e, _, d'⟩
      · obtain ⟨e1, _⟩ := I.hok a _ e
        rw [e1] at ho
        cases ho
        exact d'
      · have e1 := I.kIn a o' e
        rw [e1] at ho
        cases ho
        exact d'
    exact PySem.call_dict_pairs (knd := mixKind X.prog X.w) (PairArg.tuple a its.toArray (fun j => ps.getD j 0) _) (I.ok.hd calm) ⟨⟨o, n, ho, hc, dn, hd⟩, items its rv⟩ have_ (by rw [wsl]; exact hz) (fin _ wsl (by rw [wsl]; exact hz))
/-- pairs, apart: keys, values -/
def pairsD : List D → Option (List D × List D)
  | [] => some ([], [])
  | .tup [k, v] :: r => if (keyD k).isSome = true then (pairsD r).map fun p => (k :: p.1, v :: p.2) else none
  | .ztp [k, v] :: r => if (keyD k).isSome = true then (pairsD r).map fun p => (k :: p.1, v :: p.2) else none
  | _ => none
noncomputable def oDict : Fo0 := fun as st => match as with
  | [d] => match d with
    | .tup ds => match pairsD ds with
      | some (ks, vs) => some (.dct (mergeD [] [] ks vs).1 (mergeD [] [] ks vs).2)
      | none => none
    | d => match rdlOf d st with
      | some ds => match pairsD ds with
        | some (ks, vs) => some (.dct (mergeD [] [] ks vs).1 (mergeD [] [] ks vs).2)
        | none => none
      | none => none
  | _ => none
theorem pairsD_ok {K : PySem.W.Frag} {r : Ad} {H : Hp} : ∀ {ds : List D} {vs : List V} {ks xs : List D}, pairsD ds = some (ks, xs) → RDs K r H ds vs →
    ∃ (ps : List Addr) (kvs : List (Key × V)), vs = ps.map V.ref ∧ Paired (fun p kv => SqT K H p [kV kv.1, kv.2]) ps kvs ∧ ks = kvs.map (fun kv => kD kv.1) ∧ RDs K r H xs (kvs.map (·.2))
  | [], vs, ks, xs, h, q => by
    simp only [pairsD, Option.some.injEq, Prod.mk.injEq] at h
    obtain ⟨rfl, rfl⟩ := h
    rw [q.nil_]
    exact ⟨[], [], rfl, .nil, rfl, RDs.nil⟩
  | d :: ds, vs, ks, xs, h, q => by
    have main : ∀ (k v : D) (x : V) (vs' : List V), (∃ a ws, x = .ref a ∧ SqT K H a ws ∧ RDs K r H [k, v] ws) → RDs K r H ds vs' → (if (keyD k).isSome = true then (pairsD ds).map fun p => (k :: p.1, v :: p.2) else none) = some (ks, xs) →
        ∃ (ps : List Addr) (kvs : List (Key × V)), x :: vs' = ps.map V.ref ∧ Paired (fun p kv => SqT K H p [kV kv.1, kv.2]) ps kvs ∧ ks = kvs.map (fun kv => kD kv.1) ∧ RDs K r H xs (kvs.map (·.2)) := by
      intro k v x vs' hx q2 e
      obtain ⟨a, ws, rfl, s, t⟩ := hx
      split at e
      · rename_i hk
        obtain ⟨kk, ek⟩ := keyD_some hk
        obtain ⟨w1, w2, rfl, h1, h2⟩ := t.two
        obtain ⟨rfl, rfl⟩ := keyD_ok ek h1
        cases e3 : pairsD ds with
        | none => rw [e3] at e; cases e
        | some p =>
          obtain ⟨ks', xs'⟩ := p
          rw [e3] at e
          simp only [Option.map_some, Option.some.injEq, Prod.mk.injEq] at e
          obtain ⟨rfl, rfl⟩ := e
          obtain ⟨ps, kvs, e4, e5, e6, e7⟩ := pairsD_ok e3 q2
          exact ⟨a :: ps, (kk, w2) :: kvs, by rw [e4]; rfl, .cons s e5, by rw [e6]; rfl, RDs.cons h2 e7⟩
      · cases e
    simp only [RDs] at q
    obtain ⟨x, vs', rfl, q1, q2⟩ := q
    unfold pairsD at h
    split at h
    · rename_i e
      cases e
    · rename_i k v r' e
      cases e
      refine main k v x vs' ?_ q2 h
      obtain ⟨a, ws, e1, s, t⟩ := tup_ok q1
      exact ⟨a, ws, e1, s, t⟩
    · rename_i k v r' e
      cases e
      refine main k v x vs' ?_ q2 h
      simp only [RD] at q1
      obtain ⟨a, ws, e1, s, t⟩ := q1
      exact ⟨a, ws, e1, s.1, t⟩
    · cases h
theorem oDict_ok {K : PySem.W.Frag} : FoS K (rDictP K) oDict := by
  intro r H st ds vs ob Q S hs h P
  have fin : ∀ (a : Addr) (ws : List V) (ks xs : List D) (ds' : List D), (SqL K H a ws ∨ TQ K H a (true, ws)) → RDs K r H ds' ws → pairsD ds' = some (ks, xs) → ob = .dct (mergeD [] [] ks xs).1 (mergeD [] [] ks xs).2 → rDictP K [.ref a] H Q := by
    intro a ws ks xs ds' hq t e eo
    obtain ⟨ps, kvs, rfl, h2, h3, h4⟩ := pairsD_ok e t
    subst h3 eo
    obtain ⟨m1, m2⟩ := mergeD_ok (more := kvs) (kvs := []) (ks := []) (ds := []) h4 rfl RDs.nil
    exact ⟨a, ps, kvs, rfl, hq, h2, fun p hp => P p _ hp ⟨_, rfl, m1, m2⟩⟩
  unfold oDict at h
  split at h
  · rename_i d
    obtain ⟨v, rfl, hv⟩ := hs.one
    split at h
    · rename_i ds'
      split at h
      · rename_i ks xs e
        cases h
        obtain ⟨a, ws, rfl, s, t⟩ := ptup_ok hv
        exact fin a ws ks xs _ (.inr s) t e rfl
      · cases h
    · split at h
      · rename_i ds' e2
        split at h
        · rename_i ks xs e
          cases h
          obtain ⟨a, ws, rfl, s, t⟩ := rdlOf_ok S hv e2
          exact fin a ws ks xs _ (.inl s) t e rfl
        · cases h
      · cases h
  · cases h
end FW

set_option maxHeartbeats 4000000
namespace FW
open PySem PySem.Spec L2

/-! ### d.get(k), d.get(k, x) -/
noncomputable def oGetD (d k x : D) (st : Store) : Option (D × Store) := match dctOf d st with
  | some (ks, ds) => if (keyD k).isSome = true then some ((dGet ks ds k).getD x, st) else none
  | none => none
noncomputable def xGet2 (mo mk mx : M D) : M D := xbnd mo fun d e st => if (dctOf d st).isSome = true then bnd (mk e st) fun k st1 => bnd (mx e st1) fun x st2 => ok0 (oGetD d k x st2) else none
noncomputable def xGet1 (mo mk : M D) : M D := xbnd mo fun d e st => if (dctOf d st).isSome = true then bnd (mk e st) fun k st1 => ok0 (oGetD d k .non st1) else none
section
variable {X : Cx} {EW : EWt}
theorem isD_of {r : Ad} {H : Hp} {st : Store} {d : D} {v : V} (S : Sim X.K r H st) (h : RD X.K r H d v) (e : (dctOf d st).isSome = true) : ∃ a, v = .ref a ∧ IsD H a := by
  cases q : dctOf d st with
  | none => rw [q] at e; cases e
  | some p =>
    obtain ⟨ks, ds⟩ := p
    obtain ⟨a, kvs, rfl, s, _⟩ := dctOf_ok S h q
    exact ⟨a, rfl, .inl ⟨kvs, s⟩⟩
theorem getD_core {r : Ad} {H : Hp} {st st' : Store} {d k x z : D} {a : Addr} {y w : V} {Q : VK} (S : Sim X.K r H st) (hd : RD X.K r H d (.ref a)) (hk : RD X.K r H k y) (hx : RD X.K r H x w) (h : oGetD d k x st = some (z, st')) (P : Ok X.K r H Q z st') :
    ∃ o, DGet H a y o ∧ Q (o.getD w) H := by
  unfold oGetD at h
  split at h
  · rename_i ks ds e1
    split at h
    · rename_i hkk
      cases h
      obtain ⟨a', kvs, e, s, k', t⟩ := dctOf_ok S hd e1
      cases e
      obtain ⟨kk, ek⟩ := keyD_some hkk
      obtain ⟨rfl, rfl⟩ := keyD_ok ek hk
      have g := dGet_ok (k := kk) t
      rw [← k'] at g
      refine ⟨valV kvs kk, (.inl ⟨kvs, kk, s, rfl, rfl⟩), ?_⟩
      cases q : dGet ks ds (kD kk) with
      | none =>
        rw [q] at g P
        rw [g]
        exact P.here S hx
      | some v =>
        rw [q] at g P
        obtain ⟨u, g1, g2⟩ := g
        rw [g1]
        exact P.here S g2
    · cases h
  · cases h
theorem e_get2 {j : Nat} {o a b : Expr} {apos cpos : Pos} {mo ma mb : M D} (hr : Room j X.A) (ho : E X EW o mo) (ha : E X EW a ma) (hb : E X EW b mb) (m : M2 X o "get" apos a b cpos := by exact ⟨by rfl, by rfl, by rfl, by rfl⟩) :
    E X EW (.Call (.Attribute o "get" apos) [a, b] [] cpos) (xGet2 mo ma mb) := by
  refine PE.weak (pe_dget2 (hu_of hr) ho ha hb m) ?_
  rintro σ H Q ⟨r, e, st, out, st', S, hE, h, P⟩
  refine bnd_step S hE h P fun r1 H1 x d st1 S1 x1 hE1 hd h1 P1 => ?_
  dsimp only at h1
  split at h1
  · rename_i hi
    obtain ⟨a', rfl, hI⟩ := isD_of S1 hd hi
    refine ⟨a', rfl, hI, bnd_step S1 hE1 h1 P1 fun r2 H2 y k st2 S2 x2 hE2 hk h2 P2 => bnd_step S2 hE2 h2 P2 fun r3 H3 w c st3 S3 x3 hE3 hc h3 P3 => ?_⟩
    obtain ⟨z, h4, rfl⟩ := ok0_some h3
    exact getD_core S3 ((hd.mono x2).mono x3) (hk.mono x3) hc h4 P3
  · cases h1
theorem e_get1 {j : Nat} {o a : Expr} {apos cpos : Pos} {mo ma : M D} (hr : Room j X.A) (ho : E X EW o mo) (ha : E X EW a ma) (m : M1 X o "get" apos a cpos := by exact ⟨by rfl, by rfl, by rfl, by rfl⟩) :
    E X EW (.Call (.Attribute o "get" apos) [a] [] cpos) (xGet1 mo ma) := by
  refine PE.weak (pe_dget1 (hu_of hr) ho ha m) ?_
  rintro σ H Q ⟨r, e, st, out, st', S, hE, h, P⟩
  refine bnd_step S hE h P fun r1 H1 x d st1 S1 x1 hE1 hd h1 P1 => ?_
  dsimp only at h1
  split at h1
  · rename_i hi
    obtain ⟨a', rfl, hI⟩ := isD_of S1 hd hi
    refine ⟨a', rfl, hI, bnd_step S1 hE1 h1 P1 fun r2 H2 y k st2 S2 x2 hE2 hk h2 P2 => ?_⟩
    obtain ⟨z, h4, rfl⟩ := ok0_some h2
    exact getD_core S2 (hd.mono x2) hk RD.non0 h4 P2
  · cases h1
end

/-! ### a dict that is being made -/
section
variable {X : Cx} {EW : EWt}
/-- what holds while a dict is made at p: from the beginning (r0, H0) -/
structure DcI (K : PySem.W.Frag) (r0 : Ad) (H0 : Hp) (p : Addr) (ks ds : List D) (r : Ad) (H : Hp) (st : Store) : Prop where
  sim : Sim K ⟨r.r, p :: r.x⟩ H st
  ext : Ext K r0 H0 r H
  dct : ∃ kvs, H p = some (.dK kvs) ∧ ks = kvs.map (fun kv => kD kv.1) ∧ RDs K ⟨r.r, p :: r.x⟩ H ds (kvs.map (·.2))
theorem DcI.begin {K : PySem.W.Frag} {r0 : Ad} {H0 : Hp} {p : Addr} {st : Store} (S : Sim K r0 H0 st) (hp : H0 p = none) : DcI K r0 H0 p [] [] r0 (upd H0 p (.dK [])) st :=
  ⟨(S.hide hp).1, (S.side hp).2, [], upd_same, rfl, RDs.nil⟩
theorem ext_later {K : PySem.W.Frag} {r0 r r1 : Ad} {H0 H H1 : Hp} {p : Addr} {st st1 : Store} (S : Sim K ⟨r.r, p :: r.x⟩ H st) (E0 : Ext K r0 H0 r H) (x : Ext K ⟨r.r, p :: r.x⟩ H r1 H1) : Ext K r0 H0 ⟨r1.r, r.x⟩ H1 := by
  obtain ⟨l, el, hl⟩ := E0.pre
  obtain ⟨l2, el2, hl2⟩ := x.pre
  have thr : ∀ a, H0 a ≠ none → H a ≠ none := fun a h => by
    by_cases m : a ∈ r0.r
    · exact S.there (show a ∈ r.r by rw [el]; exact List.mem_append_left _ m)
    · cases q : H0 a with
      | none => exact absurd q h
      | some o => exact (E0.keep a o q m).ne
  refine ⟨E0.x, ⟨l ++ l2, by rw [el2, el, List.append_assoc], fun a m => ?_⟩, fun a o h n => ?_, fun a xs h => x.tup a xs (E0.tup a xs h)⟩
  · rcases List.mem_append.mp m with m | m
    · exact hl a m
    · cases q : H0 a with
      | none => rfl
      | some o => exact absurd (hl2 a m) (thr a (by rw [q]; simp))
  · refine (E0.keep a o h n).trans E0.x fun u hu => x.keep a u hu ?_ |>.imp id fun h => ⟨fun m => h.1 (List.mem_cons_of_mem _ m), h.2⟩
    show a ∉ r.r
    rw [el]
    intro m
    rcases List.mem_append.mp m with m | m
    · exact n m
    · rw [hl a m] at h; cases h
theorem DcI.step {K : PySem.W.Frag} {r0 r r1 : Ad} {H0 H H1 : Hp} {p : Addr} {ks ds : List D} {st st1 : Store} (L : DcI K r0 H0 p ks ds r H st) (S1 : Sim K r1 H1 st1) (x : Ext K ⟨r.r, p :: r.x⟩ H r1 H1) : DcI K r0 H0 p ks ds ⟨r1.r, r.x⟩ H1 st1 ∧ r1 = ⟨r1.r, p :: r.x⟩ := by
  have e1 : r1 = ⟨r1.r, p :: r.x⟩ := by cases r1; simp only [Ad.mk.injEq, true_and]; exact x.x
  obtain ⟨kvs, h1, hk, h2⟩ := L.dct
  have np : p ∉ r.r := (L.sim.xs p List.mem_cons_self).2
  exact ⟨⟨e1 ▸ S1, ext_later L.sim L.ext x (st1 := st1), kvs, (x.keep p _ h1 np).xs List.mem_cons_self, hk, by have := h2.mono x; rw [e1] at this; exact this⟩, e1⟩
theorem DcI.put {K : PySem.W.Frag} {r0 r : Ad} {H0 H : Hp} {p : Addr} {ks ds ks' ds' : List D} {kvs kvs' : List (Key × V)} {st : Store} (L : DcI K r0 H0 p ks ds r H st) (hp : H0 p = none) (e : H p = some (.dK kvs)) (hk : ks' = kvs'.map (fun kv => kD kv.1)) (q : RDs K ⟨r.r, p :: r.x⟩ H ds' (kvs'.map (·.2))) :
    DcI K r0 H0 p ks' ds' r (upd H p (.dK kvs')) st := by
  obtain ⟨S2, t2⟩ := L.sim.grow (o := .dK kvs') List.mem_cons_self e (fun xs z => by rcases z with z | ⟨o, z⟩ <;> (rw [e] at z; cases z))
  refine ⟨S2, ⟨L.ext.x, L.ext.pre, fun a o h n => ?_, fun a xs h => t2.tup a xs (L.ext.tup a xs h)⟩, _, upd_same, hk, q.tr t2⟩
  rw [upd_ne (ne_of_none h hp)]
  exact L.ext.keep a o h n
theorem DcI.tr {K : PySem.W.Frag} {r0 r : Ad} {H0 H : Hp} {p : Addr} {ks ds : List D} {st : Store} (L : DcI K r0 H0 p ks ds r H st) (hp : H0 p = none) : Tr K r0 H0 ⟨r.r, p :: r.x⟩ H :=
  ⟨fun a o e nt n => ⟨(L.ext.keep a o e n.1).kf, (L.ext.out e n).1, fun m => by
    rcases List.mem_cons.mp m with m | m
    · subst m; rw [hp] at e; cases e
    · exact (L.ext.out e n).2 m⟩, fun n a z => L.ext.at_ z, L.ext.tup⟩
/-! ### {k: v, ..}: the pairs, then the dict -/
noncomputable def dispL : List (M D × M D) → M (List D × List D)
  | [] => fun _ st => some (.ok ([], []), st)
  | (mk, mv) :: r => xbnd mk fun k => if (keyD k).isSome = true then xbnd mv fun v => xbnd (dispL r) fun p _ st => some (.ok (k :: p.1, v :: p.2), st) else fun _ _ => none
noncomputable def xDisp (ms : List (M D × M D)) : M Ob := fun e st => match dispL ms e st with
  | some (.ok p, st1) => some (.ok (.dct (mergeD [] [] p.1 p.2).1 (mergeD [] [] p.1 p.2).2), st1)
  | _ => none
def Ds (X : Cx) (pos : Pos) (keys : List (Option Expr)) (values : List Expr) (ms : List (M D × M D)) : Prop := PPs X pos keys values (ms.map fun m => (tE X.K noX m.1, tE X.K noX m.2))
theorem ds_nil {pos : Pos} : Ds X pos [] [] [] := pps_nil
theorem ds_cons {pos : Pos} {k v : Expr} {ks : List (Option Expr)} {vs : List Expr} {mk mv : M D} {ms : List (M D × M D)} (hk : E X noX k mk) (hv : E X noX v mv) (hr : Ds X pos ks vs ms) : Ds X pos (some k :: ks) (v :: vs) ((mk, mv) :: ms) := pps_cons hk hv hr
theorem disp_weak {K : PySem.W.Frag} {σ : L2.St} {out : List D × List D} {e : Env} {r0 : Ad} {H0 : Hp} {p : Addr} (hE : RE K r0 H0 e σ) (hp : H0 p = none) : ∀ (ms : List (M D × M D)) (r : Ad) (H : Hp) (st st' : Store) (Q : List (V × V) → Hp → Prop), DcI K r0 H0 p [] [] r H st → dispL ms e st = some (.ok out, st') →
    (∀ r' H' (kvs : List (Key × V)), DcI K r0 H0 p [] [] r' H' st' → Ext K ⟨r.r, p :: r.x⟩ H ⟨r'.r, p :: r'.x⟩ H' → out.1 = kvs.map (fun kv => kD kv.1) → RDs K ⟨r'.r, p :: r'.x⟩ H' out.2 (kvs.map (·.2)) → Q (kvs.map fun kv => (kV kv.1, kv.2)) H') →
    tPairs (ms.map fun m => (tE K noX m.1, tE K noX m.2)) σ H Q
  | [], r, H, st, st', Q, L, h, P => by
    simp only [dispL, Option.some.injEq, Prod.mk.injEq, Res.ok.injEq] at h
    obtain ⟨rfl, rfl⟩ := h
    exact P r H [] L (Ext.refl _ _ _) rfl RDs.nil
  | (mk, mv) :: ms, r, H, st, st', Q, L, h, P => by
    have hE1 := hE.tr (L.tr hp)
    unfold dispL at h
    cases q : mk e st with
    | none => simp only [xbnd, q, bnd] at h; cases h
    | some z =>
      obtain ⟨o, st1⟩ := z
      cases o with
      | exc x => simp only [xbnd, q, bnd] at h; cases h
      | ok k =>
        simp only [xbnd, q, bnd] at h
        split at h
        · rename_i hk
          refine ⟨_, e, st, .ok k, st1, L.sim, hE1, q, fun r1 H1 y S1 x1 hd => ?_⟩
          obtain ⟨L1, er1⟩ := L.step S1 x1
          obtain ⟨kk, ek⟩ := keyD_some hk
          obtain ⟨rfl, rfl⟩ := keyD_ok ek hd
          have hE2 := hE.tr (L1.tr hp)
          cases q2 : mv e st1 with
          | none => simp only [xbnd, q2, bnd] at h; cases h
          | some z =>
            obtain ⟨o, st2⟩ := z
            cases o with
            | exc x => simp only [xbnd, q2, bnd] at h; cases h
            | ok v =>
              simp only [xbnd, q2, bnd] at h
              refine ⟨_, e, st1, .ok v, st2, L1.sim, hE2, q2, fun r2 H2 w S2 x2 hw => ?_⟩
              obtain ⟨L2, er2⟩ := L1.step S2 x2
              cases q3 : dispL ms e st2 with
              | none => rw [q3] at h; cases h
              | some z =>
                obtain ⟨o, st3⟩ := z
                rw [q3] at h
                cases o with
                | exc x => cases h
                | ok pr =>
                  simp only [Option.some.injEq, Prod.mk.injEq, Res.ok.injEq] at h
                  obtain ⟨rfl, rfl⟩ := h
                  have S0 := L.sim
                  have xx : Ext K ⟨r.r, p :: r.x⟩ H r2 H2 := by
                    rw [er1] at x1
                    exact x1.trans' L.sim L1.sim x2
                  refine disp_weak hE hp ms _ H2 st2 _ _ L2 q3 fun r3 H3 kvs L3 x3 h1 h2 => ?_
                  have x3' : Ext K r2 H2 ⟨r3.r, p :: r3.x⟩ H3 := by rw [er2]; exact x3
                  have := P r3 H3 ((kk, w) :: kvs) L3 (xx.trans' L.sim S2 x3') (by rw [List.map_cons, ← h1]) (RDs.cons (hw.mono x3') h2)
                  simpa using this
        · cases h
theorem f_disp {pos : Pos} {keys : List (Option Expr)} {values : List Expr} {ms : List (M D × M D)} (h : Ds X pos keys values ms) (hall : keys.all (·.isSome) = true := by rfl) (hl : keys.length = values.length := by rfl) (h0 : keys ≠ [] := by exact fun z => by cases z) (h15 : keys.length ≤ 15 := by decide) (hm : ms.length ≤ 15 := by decide) :
    EF X EW (.Dict keys values pos) (xDisp ms) := by
  refine PE.weak (pe_disp h hall hl h0 h15) ?_
  rintro σ H Q ⟨r, e, st, out, st', S, hE, h, P⟩
  intro p hp
  unfold xDisp at h
  cases q : dispL ms e st with
  | none => rw [q] at h; cases h
  | some z =>
    obtain ⟨o, st1⟩ := z
    rw [q] at h
    cases o with
    | exc x => cases h
    | ok pr =>
      simp only [Option.some.injEq, Prod.mk.injEq] at h
      obtain ⟨rfl, rfl⟩ := h
      have len : ∀ (ms : List (M D × M D)) (st st1 : Store) (pr : List D × List D), dispL ms e st = some (.ok pr, st1) → pr.1.length = ms.length := by
        intro ms
        induction ms with
        | nil => intro st st1 pr h; simp only [dispL, Option.some.injEq, Prod.mk.injEq, Res.ok.injEq] at h; rw [← h.1]; rfl
        | cons m ms ih =>
          intro st st1 pr h
          obtain ⟨mk, mv⟩ := m
          unfold dispL at h
          cases q : mk e st with
          | none => simp only [xbnd, q, bnd] at h; cases h
          | some z =>
            obtain ⟨o, s1⟩ := z
            cases o with
            | exc x => simp only [xbnd, q, bnd] at h; cases h
            | ok k =>
              simp only [xbnd, q, bnd] at h
              split at h
              · cases q2 : mv e s1 with
                | none => simp only [xbnd, q2, bnd] at h; cases h
                | some z =>
                  obtain ⟨o, s2⟩ := z
                  cases o with
                  | exc x => simp only [xbnd, q2, bnd] at h; cases h
                  | ok v =>
                    simp only [xbnd, q2, bnd] at h
                    cases q3 : dispL ms e s2 with
                    | none => rw [q3] at h; cases h
                    | some z =>
                      obtain ⟨o, s3⟩ := z
                      rw [q3] at h
                      cases o with
                      | exc x => cases h
                      | ok p2 =>
                        simp only [Option.some.injEq, Prod.mk.injEq, Res.ok.injEq] at h
                        rw [← h.1, List.length_cons, List.length_cons, ih _ _ _ q3]
              · cases h
      refine disp_weak hE hp ms r _ st _ _ (DcI.begin S hp) q fun r' H' kvs L x h1 h2 => ?_
      obtain ⟨kvs0, e0, hk0, _⟩ := L.dct
      have e1 : kvs0 = [] := by cases kvs0 with
        | nil => rfl
        | cons => cases hk0
      subst e1
      refine ⟨e0, kvs, rfl, ?_, ?_⟩
      · have := len ms st _ pr q
        rw [h1, List.length_map] at this
        omega
      · obtain ⟨m1, m2⟩ := mergeD_ok (more := kvs) (kvs := []) (ks := []) (ds := []) h2 rfl RDs.nil
        rw [← h1] at m1 m2
        have L2 := L.put hp e0 m1 m2
        obtain ⟨kvs2, e2, k2, q2⟩ := L2.dct
        have e3 : kvs2 = mergeK [] kvs := by rw [upd_same] at e2; cases e2; rfl
        subst e3
        exact P r' _ p L2.sim L2.ext (by rw [L2.ext.x]; exact (S.notin hp).2) ⟨_, upd_same, k2, q2⟩ hp
end
end FW

set_option maxHeartbeats 4000000
namespace FW
open PySem L2

/-! ### {k: v for target in it if t} -/
open Classical in
noncomputable def dcL (it : Itm) (g : MG) (t : M Bool) (mk mv : M D) (e : Env) : List D → List D → List D → Store → Option (Res Ob × Store)
  | [], ks, ds, st => if it.hold st then some (.ok (.dct ks ds), st) else none
  | d :: r, ks, ds, st => if it.hold st then
      match g d e st with
      | none => none
      | some (e1, st1) => match t e1 st1 with
        | some (.ok true, st2) => (match mk e1 st2 with
          | some (.ok k, st3) => if (keyD k).isSome = true then (match mv e1 st3 with
            | some (.ok v, st4) => if ks.length < sizeLine then dcL it g t mk mv e r (dPut ks ds k v).1 (dPut ks ds k v).2 st4 else none
            | _ => none) else none
          | _ => none)
        | some (.ok false, st2) => dcL it g t mk mv e r ks ds st2
        | _ => none
    else none
noncomputable def xDc (vs : List Nat) (it : M Itm) (g : MG) (t : M Bool) (mk mv : M D) : M Ob := fun e st => bnd (it e st) fun i st1 => dcL i g t mk mv (wipeE e vs) i.ds [] [] st1
section
variable {X : Cx} {EW : EWt}
theorem dc_weak {sl vs : List Nat} {mi : M Itm} {g : MG} {t : M Bool} {mk mv : M D} {σ : L2.St} {H : Hp} {Q : VK} (hsl : ∀ i ∈ sl, i ∈ vs) (h : tF X.K EW (xDc vs mi g t mk mv) σ H Q) : tDc (tI X.K EW mi) (tG X.K sl g) (tT X.K noX t) (tE X.K noX mk) (tE X.K noX mv) vs σ H Q := by
  obtain ⟨r, e, st, out, st', S, hE, h, P⟩ := h
  cases q : mi e st with
  | none => simp only [xDc, q, bnd] at h; cases h
  | some p =>
    obtain ⟨o, st1⟩ := p
    cases o with
    | exc x =>
      simp only [xDc, q, bnd] at h
      cases h
      exact ⟨r, e, st, _, _, S, hE, q, P⟩
    | ok it =>
      simp only [xDc, q, bnd] at h
      refine ⟨r, e, st, _, _, S, hE, q, fun r1 H1 J S1 x1 iok p hp => ?_⟩
      have hE1 := hE.mono x1
      refine ⟨fun i n H => ∃ r st ks ds, DcI X.K r1 H1 p ks ds r H st ∧ n = it.ds.length - i ∧ dcL it g t mk mv (wipeE e vs) (it.ds.drop i) ks ds st = some (out, st'),
        ⟨it.ds.length, r1, st1, [], [], .begin S1 hp, by simp, by simpa using h⟩, ?_⟩
      rintro i n H ⟨r2, st2, ks, ds, L, rfl, h⟩
      have t1 := L.tr hp
      have hEw : RE X.K ⟨r2.r, p :: r2.x⟩ H (wipeE e vs) (L2.wipe σ vs) := (hE1.tr t1).wipe _
      have iokL : ItOk X.K ⟨r2.r, p :: r2.x⟩ H it J := iok.tr t1
      by_cases hlt : i < it.ds.length
      · rw [List.drop_eq_getElem_cons hlt] at h
        unfold dcL at h
        split at h
        · rename_i hh
          obtain ⟨_, go⟩ := iokL _ H st2 L.sim ⟨fun a o e _ n => ⟨.inl e, n⟩, fun _ _ z => z, fun _ _ z => z⟩ hh
          obtain ⟨go, yld⟩ := go i it.ds[i] (by simp [hlt])
          refine .inr ⟨go, fun H => ∃ r st ks ds, DcI X.K r1 H1 p ks ds r H st ∧ dcL it g t mk mv (wipeE e vs) (it.ds.drop (i + 1)) ks ds st = some (out, st'),
            fun H' ⟨r, st, ks, ds, L, h⟩ => ⟨it.ds.length - (i + 1), by omega, r, st, ks, ds, L, rfl, h⟩, fun x H3 hy => ?_⟩
          obtain ⟨S3, x3, hd⟩ := yld x H3 hy
          obtain ⟨L3, _⟩ := L.step S3 x3
          cases q : g it.ds[i] (wipeE e vs) st2 with
          | none => rw [q] at h; cases h
          | some pp =>
            obtain ⟨e1, st3⟩ := pp
            rw [q] at h
            dsimp only at h
            refine ⟨_, _, st2, it.ds[i], e1, st3, S3, hEw.mono x3, hd, q, fun r4 H4 σ4 S4 x4 hE4 o4 => ?_⟩
            refine ⟨wipe_off o4 hsl, ?_⟩
            obtain ⟨L4, er4⟩ := L3.step S4 x4
            cases q2 : t e1 st3 with
            | none => rw [q2] at h; cases h
            | some pp =>
              obtain ⟨o, st4⟩ := pp
              rw [q2] at h
              cases o with
              | exc y => cases h
              | ok b =>
                refine ⟨r4, e1, st3, .ok b, st4, S4, hE4, q2, fun r5 H5 b' S5 x5 hb => ?_⟩
                cases hb
                have hE5 := hE4.mono x5
                rw [er4] at x5
                obtain ⟨L5, er5⟩ := L4.step S5 x5
                cases b with
                | false =>
                  rw [if_neg Bool.false_ne_true]
                  exact ⟨_, st4, ks, ds, L5, h⟩
                | true =>
                  rw [if_pos rfl]
                  dsimp only at h
                  cases q3 : mk e1 st4 with
                  | none => rw [q3] at h; cases h
                  | some pp =>
                    obtain ⟨o, st5⟩ := pp
                    rw [q3] at h
                    cases o with
                    | exc y => cases h
                    | ok k =>
                      dsimp only at h
                      split at h
                      · rename_i hk
                        refine ⟨r5, e1, st4, .ok k, st5, S5, hE5, q3, fun r6 H6 y S6 x6 hy6 => ?_⟩
                        have hE6 := hE5.mono x6
                        rw [er5] at x6
                        obtain ⟨L6, er6⟩ := L5.step S6 x6
                        obtain ⟨kk, ek⟩ := keyD_some hk
                        obtain ⟨rfl, rfl⟩ := keyD_ok ek hy6
                        cases q4 : mv e1 st5 with
                        | none => rw [q4] at h; cases h
                        | some pp =>
                          obtain ⟨o, st6⟩ := pp
                          rw [q4] at h
                          cases o with
                          | exc y => cases h
                          | ok v =>
                            dsimp only at h
                            split at h
                            · rename_i hz
                              refine ⟨r6, e1, st5, .ok v, st6, S6, hE6, q4, fun r7 H7 w S7 x7 hw => ?_⟩
                              rw [er6] at x7
                              obtain ⟨L7, er7⟩ := L6.step S7 x7
                              obtain ⟨kvs, e7, k7, q7⟩ := L7.dct
                              rw [er7] at hw
                              obtain ⟨m1, m2⟩ := dPut_ok (k := kk) hw q7
                              rw [← k7] at m1 m2
                              refine ⟨kvs, kk, rfl, e7, by rw [k7, List.length_map] at hz; exact hz, ?_⟩
                              exact ⟨_, st6, _, _, L7.put hp e7 m1 m2, h⟩
                            · cases h
                      · cases h
        · cases h
      · rw [List.drop_eq_nil_of_le (by omega)] at h
        unfold dcL at h
        split at h
        · rename_i hh
          cases h
          obtain ⟨stop, _⟩ := iokL _ H st' L.sim ⟨fun a o e _ n => ⟨.inl e, n⟩, fun _ _ z => z, fun _ _ z => z⟩ hh
          refine .inl ⟨stop i (by omega), ?_⟩
          obtain ⟨kvs, e2, k2, q2⟩ := L.dct
          refine P r2 H p L.sim (x1.trans' S S1 L.ext) ?_ ⟨kvs, e2, k2, q2⟩ (fresh_back S S1 x1 hp)
          have : r2.x = r1.x := L.ext.x
          rw [this]
          exact (S1.notin hp).2
        · cases h
theorem f_dc {sl : List Nat} {own : List (Str × Nat)} {kx vx tg iter : Expr} {ifs : List Expr} {scope : Scope} {pos : Pos} {mi : M Itm} {g : MG} {t : M Bool} {mk mv : M D} (hc : X.calm = true) (hN : X.N.Nodup) (hi : I_ X EW tg iter mi) (ok : blkC X.N X.env.scope scope own = true)
    (hg : ∀ (s : Shared) (H : Hp) (C : Addr) (cl : List (Str × Addr)) (fp : List Addr), G (X.blk s H scope (compEnvC scope cl C X.env) fp) sl tg g)
    (ht : ∀ (s : Shared) (H : Hp) (C : Addr) (cl : List (Str × Addr)) (fp : List Addr), Ts (X.blk s H scope (compEnvC scope cl C X.env) fp) ifs t)
    (hk : ∀ (s : Shared) (H : Hp) (C : Addr) (cl : List (Str × Addr)) (fp : List Addr), E (X.blk s H scope (compEnvC scope cl C X.env) fp) noX kx mk)
    (he : ∀ (s : Shared) (H : Hp) (C : Addr) (cl : List (Str × Addr)) (fp : List Addr), E (X.blk s H scope (compEnvC scope cl C X.env) fp) noX vx mv)
    (hsl : ∀ i ∈ sl, i ∈ own.map (·.2) := by decide) (hs : ∀ x, foldedSetIterable iter X.env x = pure x := by intro _; rfl) :
    EF X EW (.DictComp kx vx [⟨tg, iter, ifs, 0⟩] scope pos) (xDc (own.map (·.2)) mi g t mk mv) := by
  exact PE.weak (pe_dc (g := tG X.K sl g) (tt := tT X.K noX t) (tk := tE X.K noX mk) (tv := tE X.K noX mv) hc hN hi (blkOk_by ok) hg ht hk he hs) fun σ H Q h => dc_weak hsl h
end
end FW

set_option maxHeartbeats 4000000
namespace FW
open PySem PySem.Spec PyProof.Rows L2

/-! ### sorted: texts; tuples whose first parts are texts, all of them different -/
/-- a value's signs -/
def sgV : Value → List Nat
  | .str x _ => x.cps.toList
  | _ => []
def ltSg (v u : Value) : Bool := decide (sgV v < sgV u)
theorem nat_asym {a b : List Nat} (h : a < b) : ¬ b < a := fun z => List.lt_irrefl a (List.lt_trans h z)
theorem nat_tr {a b c : List Nat} (h1 : ¬ b < a) (h2 : ¬ c < b) : ¬ c < a := fun z => h1 (List.lt_of_le_of_lt (List.not_lt.mp h2) z)
theorem swo_by {α : Type} (f : α → List Nat) : SrtO.Swo (fun x y : α => decide (f x < f y)) :=
  ⟨fun x y h => decide_eq_false (nat_asym (of_decide_eq_true h)), fun x y z h1 h2 => decide_eq_false (nat_tr (of_decide_eq_false h1) (of_decide_eq_false h2))⟩
section
variable {prog : Program} {w : World} {A : Around} {E : Value → Shared → Prop} {s : Shared}
theorem strs_each : ∀ {vs : List Value} {xs : List Str}, StrsAre vs xs → ∀ v ∈ vs, ∃ x t, v = Value.str x t
  | _, _, .nil, v, h => by cases h
  | _, _, .cons x t r, v, h => by
    cases List.mem_cons.mp h with
    | inl e => exact ⟨x, t, e⟩
    | inr m => exact strs_each r v m
theorem strs_back : ∀ {vs : List Value}, (∀ v ∈ vs, ∃ x t, v = Value.str x t) → ∃ xs, StrsAre vs xs ∧ xs.map (fun x => x.cps.toList) = vs.map sgV
  | [], _ => ⟨[], .nil, rfl⟩
  | v :: vs, h => by
    obtain ⟨x, t, rfl⟩ := h v List.mem_cons_self
    obtain ⟨xs, h1, h2⟩ := strs_back (vs := vs) fun u m => h u (List.mem_cons_of_mem _ m)
    exact ⟨x :: xs, .cons x t h1, by simp only [List.map_cons, h2]; rfl⟩
theorem sg_strs : ∀ {vs : List Value} {xs : List Str}, StrsAre vs xs → vs.map sgV = xs.map fun x => x.cps.toList
  | _, _, .nil => rfl
  | _, _, .cons x t r => by rw [List.map_cons, List.map_cons, sg_strs r]; rfl
theorem str_sortable {a : Addr} {vs : List Value} {xs : List Str} (hS : StrsAre vs xs) (h2 : 2 ≤ vs.length) : SrtO.SortableO prog w A s a vs ltSg := by
  intro h' keep
  refine ⟨oneType', fun Q E hq => ?_, ?_⟩
  · cases hS with
    | nil => simp at h2
    | cons x t r =>
      cases r with
      | nil => simp at h2
      | cons y u r => rw [keyKind_strs (.cons x t (.cons y u r))]; exact wpAny_pure hq
  · intro p q hp hq
    obtain ⟨x, t, e⟩ := strs_each hS _ hp
    obtain ⟨y, u, e'⟩ := strs_each hS _ hq
    show wpAny (model prog w) A (keyLt' oneType' p.1 q.1) (fun r s' => s' = _ ∧ r = ltSg p.1 q.1) (fun _ _ => False) _
    rw [e, e', keyLt'_oneType]
    exact oneLt_str ⟨rfl, rfl⟩
/-- the label of a tuple: its first part's signs -/
def lbOf (h : Heap) (v : Value) : List Nat := match v with
  | .ref a => match h.get? a with
    | some o => match o.data with
      | .seq its _ => (its[0]?.map sgV).getD []
      | _ => []
    | none => []
  | _ => []
/-- a pair with a text ahead -/
def LbP (h : Heap) (v : Value) (z : List Nat) : Prop := ∃ a o x t y n, v = .ref a ∧ h.get? a = some o ∧ o.cls = .type "tuple" ∧ o.data = .seq #[.str x t, y] n ∧ z = x.cps.toList
theorem LbP.of {h : Heap} {v : Value} {z : List Nat} (p : LbP h v z) : lbOf h v = z := by
  obtain ⟨a, o, x, t, y, n, rfl, e, _, d, rfl⟩ := p
  simp only [lbOf, e, d]
  rfl
theorem LbP.keep {h h' : Heap} {v : Value} {z : List Nat} (p : LbP h v z) (k : ∀ b o, h.get? b = some o → o.cls = .type "tuple" → h'.get? b = some o) : LbP h' v z := by
  obtain ⟨a, o, x, t, y, n, rfl, e, c, d, rfl⟩ := p
  exact ⟨a, o, x, t, y, n, rfl, k _ _ e c, c, d, rfl⟩
theorem lb_sortable {a : Addr} {vs : List Value} {zs : List (List Nat)} (h0 : 0 < vs.length) (hp : ∀ v ∈ vs, LbP s.heap v (lbOf s.heap v)) (nd : (vs.map (lbOf s.heap)).Nodup) (ha : ∀ o, s.heap.get? a = some o → o.cls ≠ .type "tuple") :
    SrtO.SortableO prog w A s a vs fun v u => decide (lbOf s.heap v < lbOf s.heap u) := by
  intro h' keep
  have hp' : ∀ v ∈ vs, LbP h' v (lbOf s.heap v) := fun v m => (hp v m).keep fun b o e c => keep b o (fun z => by subst z; exact ha o e c) e
  have firsts : ∀ us : List Value, (∀ v ∈ us, LbP h' v (lbOf s.heap v)) → ∃ fs, PySem.W.KatTups h' us fs ∧ fs.length = us.length ∧ ∀ f ∈ fs, ∃ x t, f = Value.str x t := by
    intro us
    induction us with
    | nil => exact fun _ => ⟨[], PySem.W.KatTups.nil, rfl, by simp⟩
    | cons v us ih =>
      intro h
      obtain ⟨fs, f1, f2, f3⟩ := ih fun u m => h u (List.mem_cons_of_mem _ m)
      obtain ⟨b, o, x, t, y, n, rfl, e, c, d, _⟩ := h v List.mem_cons_self
      refine ⟨.str x t :: fs, PySem.W.KatTups.cons e c d (by rfl) f1, by simp [f2], fun f m => ?_⟩
      cases List.mem_cons.mp m with
      | inl q => exact ⟨x, t, q⟩
      | inr q => exact f3 f q
  obtain ⟨fs, f1, f2, f3⟩ := firsts vs hp'
  refine ⟨tuples' true, fun Q E hq => ?_, ?_⟩
  · refine PySem.W.kat_kind (T := .type "str") f1 (by omega) (fun f m => ?_) (by rfl) ?_
    · obtain ⟨x, t, rfl⟩ := f3 f m
      exact PySem.W.Looks.now
    · have e : (Value.type "str" != Value.type "tuple") = true := by first | decide +kernel | rfl | decide
      rw [e]
      exact hq
  · intro p q hm hm'
    have g1 := hp' _ hm
    have g2 := hp' _ hm'
    show wpAny (model prog w) A (keyLt' (tuples' true) p.1 q.1) (fun r s' => s' = _ ∧ r = decide (lbOf s.heap p.1 < lbOf s.heap q.1)) (fun _ _ => False) _
    by_cases same : p.1 = q.1
    · rw [← same]
      obtain ⟨b, o, x, t, y, n, e, ho, c, d, ez⟩ := g1
      rw [ez, e]
      have no : decide (x.cps.toList < x.cps.toList) = false := decide_eq_false (List.lt_irrefl _)
      rw [no]
      refine PySem.W.kat_lt (s := { s with heap := h' }) ho d ho d ?_
      show PySem.W.KatLex prog w A true (decide (2 < 2)) _ [(.str x t, .str x t), (y, y)] 0 _
      have self : ∀ (v : Value) (Q : Bool → Shared → Prop) (s : Shared), Q true s → wpAny (model prog w) A (eqBool v v) Q (fun _ _ => False) s := by
        intro v Q s hQ
        unfold eqBool
        refine wpAny_holding ?_
        rw [if_pos (by simp)]
        exact wpAny_bind (wpAny_rule (wpAny_pure hQ))
      refine PySem.W.kat_cons (self _ _ _ (PySem.W.kat_yes (PySem.W.kat_cons (self _ _ _ (PySem.W.kat_yes (PySem.W.kat_nil ⟨rfl, rfl⟩))))))
    · have ne : lbOf s.heap p.1 ≠ lbOf s.heap q.1 := by
        intro z
        obtain ⟨i, hi⟩ := List.getElem?_of_mem hm
        obtain ⟨j, hj⟩ := List.getElem?_of_mem hm'
        have e1 : (vs.map (lbOf s.heap))[i]? = some (lbOf s.heap p.1) := by rw [List.getElem?_map, hi]; rfl
        have e2 : (vs.map (lbOf s.heap))[j]? = some (lbOf s.heap p.1) := by rw [List.getElem?_map, hj, z]; rfl
        have l1 := (List.getElem?_eq_some_iff.mp e1)
        have l2 := (List.getElem?_eq_some_iff.mp e2)
        obtain ⟨b1, c1⟩ := l1
        obtain ⟨b2, c2⟩ := l2
        have ij : i = j := (List.getElem_inj nd).mp (c1.trans c2.symm)
        subst ij
        rw [hi] at hj
        exact same (Option.some.inj hj)
      obtain ⟨b, o, x, t, y, n, e, ho, c, d, ez⟩ := g1
      obtain ⟨b', o', x', t', y', n', e', ho', c', d', ez'⟩ := g2
      rw [ez, ez'] at ne ⊢
      rw [e, e']
      refine PySem.W.kat_lt (s := { s with heap := h' }) ho d ho' d' ?_
      show PySem.W.KatLex prog w A true (decide (2 < 2)) _ [(.str x t, .str x' t'), (y, y')] 0 _
      refine PySem.W.kat_cons (wpAny_eqBool_str ?_)
      have eb : decide (x = x') = false := decide_eq_false fun z => ne (by rw [z])
      rw [eb]
      exact PySem.W.kat_no (oneLt_str ⟨rfl, rfl⟩)
end
end FW

set_option maxHeartbeats 4000000
namespace FW
open PySem PySem.Spec PyProof.Rows L2

def Str.sg (x : Str) : List Nat := x.cps.toList
theorem Str.sg_inj {x y : Str} (h : x.cps.toList = y.cps.toList) : x = y := by
  cases x; cases y
  simp only [Str.mk.injEq]
  exact Array.toList_inj.mp h
/-- texts, from the smallest -/
def srtS (xs : List Str) : List Str := xs.mergeSort (fun a b => !decide (b.cps.toList < a.cps.toList))
theorem srtS_perm (xs : List Str) : (srtS xs).Perm xs := List.mergeSort_perm _ _
theorem srtS_sorted (xs : List Str) : (srtS xs).Pairwise fun a b => ¬ b.cps.toList < a.cps.toList := by
  have h := List.pairwise_mergeSort (le := fun (a b : Str) => !decide (b.cps.toList < a.cps.toList)) (fun a b c h1 h2 => by
    simp only [Bool.not_eq_true', decide_eq_false_iff_not] at *
    exact nat_tr h1 h2) (fun a b => by
    simp only [Bool.or_eq_true, Bool.not_eq_true', decide_eq_false_iff_not]
    by_cases q : b.cps.toList < a.cps.toList
    · exact .inr (nat_asym q)
    · exact .inl q) xs
  exact h.imp fun h => by simpa using h
theorem srtS_only {xs ys : List Str} (h1 : ys.Perm xs) (h2 : ys.Pairwise fun a b => ¬ b.cps.toList < a.cps.toList) : ys = srtS xs :=
  List.Perm.eq_of_pairwise (fun a b _ _ h3 h4 => Str.sg_inj (List.le_antisymm (List.not_lt.mp h3) (List.not_lt.mp h4))) h2 (srtS_sorted xs) (h1.trans (srtS_perm xs).symm)
theorem strs_out {vs out : List Value} {xs : List Str} (hS : StrsAre vs xs) (hs : SrtO.Srtd ltSg out) (hb : SrtO.Stb ltSg out vs) : StrsAre out (srtS xs) := by
  obtain ⟨ys, h1, h2⟩ := strs_back (vs := out) fun v hv => strs_each hS v (hb.perm.mem_iff.mp hv)
  have e : ys = srtS xs := by
    refine srtS_only ?_ ?_
    · have p : (ys.map fun x => x.cps.toList).Perm (xs.map fun x => x.cps.toList) := by
        rw [h2, ← sg_strs hS]
        exact hb.perm.map _
      have q := p.map (fun l => (⟨l.toArray⟩ : Str))
      simpa [Function.comp_def] using q
    · have p : (out.map sgV).Pairwise fun a b => ¬ b < a := List.pairwise_map.mpr (hs.imp fun {x y} h => of_decide_eq_false h)
      rw [← h2] at p
      exact List.pairwise_map.mp p
  rw [← e]
  exact h1
section
variable {X : Cx}
/-- a list of texts -/
def rSortLS (K : PySem.W.Frag) : List V → Hp → VK → Prop := fun vs H Q => ∃ (a : Addr) (xs : List Str), vs = [V.ref a] ∧ SqL K H a (xs.map V.str) ∧ ∀ p, H p = none → Q (.ref p) (upd H p (.lst ((srtS xs).map V.str)))
theorem cr_sortLS : CallR X (.builtin "sorted") (rSortLS X.K) := by
  intro pins s σ H vs us Q I rel hh
  obtain ⟨a, xs, rfl, hs, q⟩ := hh
  obtain ⟨its, rv, hl, hz⟩ := I.list hs
  rw [Vals.ref1 rel]
  have hi := rv.strs
  refine SrtO.sorted_ord (swo_by sgV) hl.isList (by rw [← rv.length]; exact hz) (fun h2 h₁ a' _ _ => str_sortable hi h2) fun out h1 h2 => ?_
  have k1 := strs_out hi h1 h2
  obtain ⟨ep, he'⟩ := PyProof.Rows.sortedAll_at s.heap its out.toArray
  have small : ((srtS xs).map V.str).length ≤ sizeLine := by
    rw [List.length_map, (srtS_perm xs).length_eq, ← List.length_map (f := V.str)]
    exact hz
  exact ⟨.ref _, upd H (s.heap.objs.size + 1) (.lst ((srtS xs).map V.str)), I.laid (t' := s.toks) (fun _ _ => PyProof.Rows.sortedAll_old) (Nat.le_succ _) ⟨small, out, ep, vals_of_strs k1, he'⟩, rfl, q _ (I.hok.fresh (Nat.le_succ _))⟩
/-- what is behind the items that are gathered: a new list, sorted -/
theorem sort_tail {pins : List (Addr × Obj)} {σ : L2.St} {H : Hp} {s : Shared} {A : Around} {E : Value → Shared → Prop} {vs : List Value} {ltv : Value → Value → Bool} {ys : List V} {Q : VK} {R : PySem.Fin → Shared → Prop} (J : Inv X pins σ H s) (O : SrtO.Swo ltv) (hz : vs.length ≤ sizeLine)
    (hS : ∀ (h : Heap) (a : Addr), 2 ≤ vs.length → SrtO.SortableO X.prog X.w A.in1 { s with heap := h } a vs ltv) (ho : ∀ out : List Value, SrtO.Srtd ltv out → SrtO.Stb ltv out vs → Vals ys out) (hy : ys.length ≤ sizeLine) (q : ∀ p, H p = none → Q (.ref p) (upd H p (.lst ys)))
    (hR : ∀ (v : Value) (s' : Shared), EP X pins σ Q v s' → R (.done (.ret v)) s') :
    wpAny (model X.prog X.w) A (newList vs >>= fun l => holding [l] (call (.builtin "list.sort") [l]) >>= fun _ => ret l) R E s := by
  apply wpAny_bind
  refine wpAny_newList ?_ hz
  have stands : (s.heap.push (seqObj "list" vs.toArray 0)).get? s.heap.objs.size = some (seqObj "list" vs.toArray 0) := Heap.get?_push_size _ rfl
  refine wpAny_bind (wpAny_holding (wpAny_call_entry slot_list_sort ⟨_, stands, rfl⟩ entry_list_sort
    (SrtO.list_sort_ord (s := { s with heap := s.heap.push (seqObj "list" vs.toArray 0) }) O stands hz (fun h2 => hS _ _ h2) fun out o1 o2 => ⟨_, rfl, ?_⟩) (args_list_sort _)))
  have ov := ho out o1 o2
  rcases sortedHeap_at (vs := vs) (out := out.toArray) stands with ⟨ep2, at2⟩
  have laid := J.laid (a := s.heap.objs.size) (o := .lst ys) (h' := sortedHeap (s.heap.push (seqObj "list" vs.toArray 0)) s.heap.objs.size vs out.toArray) (t' := s.toks) (fun b u eb => by
    have lt := Heap.lt_size eb
    rw [sortedHeap_old (Nat.ne_of_lt lt) (by rw [size_push']; exact Nat.lt_succ_of_lt lt)]
    exact Heap.get?_push_of_some _ eb) (Nat.le_refl _) ⟨hy, out, ep2, ov, at2⟩
  exact wpAny_pure (hR _ _ ⟨.ref s.heap.objs.size, _, laid, rfl, q _ (J.hok.fresh (Nat.le_refl _))⟩)
/-- a dict's keys that are texts -/
def rSortDS : List V → Hp → VK → Prop := fun xs H Q => ∃ (a : Addr) (kvs : List (Key × V)) (ks : List Str), xs = [.ref a] ∧ Rd H a (.dK kvs) ∧ kvs.map (fun kv => kv.1) = ks.map Sum.inr ∧ ∀ p, H p = none → Q (.ref p) (upd H p (.lst ((srtS ks).map V.str)))
theorem cr_sortDS (calm : X.calm = true) : CallR X (.builtin "sorted") rSortDS := by
  intro pins s σ H vs us Q I rel hh
  rcases hh with ⟨a, kvs, ks, rfl, hd, hks, q⟩
  rw [Vals.ref1 rel]
  rcases dk_rd I.hok hd with ⟨small, lo, vs, rl, dd⟩
  rcases dd.dictAt with ⟨ep, at_⟩
  have e0 : vs.map (·.1) = ks.map Sum.inr := rl.keys.symm.trans hks
  have e1 : vs.length = ks.length := by simpa using congrArg List.length e0
  have e2 : kvs.length = ks.length := by simpa using congrArg List.length hks
  have e3 : ks.length ≤ sizeLine := by rw [← e2]; exact small
  apply Calls.call_function_entry kind_sorted plain_sorted entry_sorted (args_sorted1 _)
  unfold Builtin.«sorted»
  apply wpAny_bind (m := checkCount "sorted" 1 1 _)
  apply wpAny_pure
  apply wpAny_bind
  apply PySem.W.kdu_collect (A := X.A.in1) (PySem.W.kdl_dict (knd := mixKind X.prog X.w) (kvs := vs) (ep := ep) lo) (I.ok.hd calm) at_ (by rw [e1]; exact e3)
  intro h1 tk acc keep got
  have e4 : acc.toList.length = ks.length := by rw [Array.length_toList, got.1, e1]
  have each : ∀ (n : Nat) (l : List Value) (ms : List Str), l.length = n → ms.length = n → (∀ (j : Nat) (u : Value) (m : Str), l[j]? = some u → ms[j]? = some m → ∃ t, u = .str m t) → StrsAre l ms := by
    intro n
    induction n with
    | zero => intro l ms h1 h2 _; cases l <;> cases ms <;> simp_all; exact .nil
    | succ n ih =>
      intro l ms h1 h2 h3
      cases l with
      | nil => simp at h1
      | cons u l =>
        cases ms with
        | nil => simp at h2
        | cons m ms =>
          obtain ⟨t, rfl⟩ := h3 0 u m rfl rfl
          exact .cons m t (ih l ms (by simpa using h1) (by simpa using h2) fun j u m e1 e2 => h3 (j + 1) u m (by simpa using e1) (by simpa using e2))
  have hst : StrsAre acc.toList ks := by
    refine each ks.length _ _ e4 rfl fun j u m eu em => ?_
    rcases got.2 j u (by simpa using eu) with ⟨k, y, g1, g2⟩
    have g3 : (ks.map Sum.inr)[j]? = some k := by rw [← e0, List.getElem?_map, g1]; rfl
    rw [List.getElem?_map, em] at g3
    simp only [Option.map_some, Option.some.injEq] at g3
    subst g3
    rcases keyIs_shape (show keyIs (Sum.inr m) u = true from g2) with ⟨i, t, ek, ev⟩ | ⟨w, t, ek, ev⟩
    · exact nomatch ek
    · injection ek with ek; subst ek; exact ⟨t, ev⟩
  have J : Inv X pins σ H { s with heap := h1, toks := tk } := I.kept keep
  exact sort_tail (s := { s with heap := h1, toks := tk }) J (swo_by sgV) (by rw [e4]; exact e3) (fun h a h2 => str_sortable hst h2) (fun out o1 o2 => vals_of_strs (strs_out hst o1 o2)) (by rw [List.length_map, (srtS_perm ks).length_eq]; exact e3) q fun v s' e => ⟨_, rfl, e⟩
end
end FW

set_option maxHeartbeats 4000000
namespace FW
open PySem PySem.Spec PyProof.Rows L2

/-! ### sorted: pairs with different texts ahead -/
/-- a strictly rising list is the only one of its kind -/
theorem lt_only {α : Type} {f : α → List Nat} {xs ys : List α} (h1 : xs.Perm ys) (h2 : xs.Pairwise fun a b => f a < f b) (h3 : ys.Pairwise fun a b => f a < f b) : xs = ys :=
  List.Perm.eq_of_pairwise (fun a b _ _ h4 h5 => absurd h5 (nat_asym h4)) h2 h3 h1
/-- by a label, from the smallest -/
def srtL {α : Type} (f : α → List Nat) (xs : List α) : List α := xs.mergeSort (fun a b => !decide (f b < f a))
theorem srtL_perm {α : Type} {f : α → List Nat} (xs : List α) : (srtL f xs).Perm xs := List.mergeSort_perm _ _
theorem srtL_le {α : Type} {f : α → List Nat} (xs : List α) : (srtL f xs).Pairwise fun a b => ¬ f b < f a := by
  have h := List.pairwise_mergeSort (le := fun (a b : α) => !decide (f b < f a)) (fun a b c h1 h2 => by
    simp only [Bool.not_eq_true', decide_eq_false_iff_not] at *
    exact nat_tr h1 h2) (fun a b => by
    simp only [Bool.or_eq_true, Bool.not_eq_true', decide_eq_false_iff_not]
    by_cases q : f b < f a
    · exact .inr (nat_asym q)
    · exact .inl q) xs
  exact h.imp fun h => by simpa using h
theorem lt_of_le_ne {α : Type} {f : α → List Nat} {xs : List α} (h : xs.Pairwise fun a b => ¬ f b < f a) (nd : (xs.map f).Nodup) : xs.Pairwise fun a b => f a < f b := by
  have nd' : xs.Pairwise fun a b => f a ≠ f b := List.pairwise_map.mp nd
  refine (h.and nd').imp fun {a b} ⟨h1, h2⟩ => ?_
  by_cases q : f a < f b
  · exact q
  · exact absurd (List.le_antisymm (List.not_lt.mp h1) (List.not_lt.mp q)) h2
theorem srtL_lt {α : Type} {f : α → List Nat} {xs : List α} (nd : (xs.map f).Nodup) : (srtL f xs).Pairwise fun a b => f a < f b :=
  lt_of_le_ne (srtL_le xs) (((srtL_perm xs).map f).nodup_iff.mpr nd)
section
variable {X : Cx}
def rSortLP (K : PySem.W.Frag) : List V → Hp → VK → Prop := fun vs H Q => ∃ (a : Addr) (xs : List V) (ls : List (List Nat)), vs = [V.ref a] ∧ SqL K H a xs ∧ Paired (fun x l => ∃ t z y, x = V.ref t ∧ SqT K H t [.str z, y] ∧ l = z.cps.toList) xs ls ∧ ls.Nodup ∧
  ∀ (ps : List (V × List Nat)) (p : Addr), ps.Perm (xs.zip ls) → (ps.Pairwise fun a b => a.2 < b.2) → H p = none → Q (.ref p) (upd H p (.lst (ps.map (·.1))))
/-- a value's abstract form, for references -/
def rfV : Value → V
  | .ref a => .ref a
  | _ => .non
theorem cr_sortLP : CallR X (.builtin "sorted") (rSortLP X.K) := by
  intro pins s σ H vs us Q I rel hh
  obtain ⟨a, xs, ls, rfl, hs, hp, nd, q⟩ := hh
  obtain ⟨its, rv, hl, hz⟩ := I.list hs
  rw [Vals.ref1 rel]
  have each : ∀ {xs : List V} {ls : List (List Nat)} {its : List Value}, Paired (fun x l => ∃ t z y, x = V.ref t ∧ SqT X.K H t [.str z, y] ∧ l = z.cps.toList) xs ls → Vals xs its → (∀ v ∈ its, LbP s.heap v (lbOf s.heap v)) ∧ its.map (lbOf s.heap) = ls ∧ its.map rfV = xs := by
    intro xs ls its hp
    induction hp generalizing its with
    | nil => intro rv; cases rv; exact ⟨by simp, rfl, rfl⟩
    | @cons x l xs ls h t ih =>
      intro rv
      cases rv with
      | cons r rv =>
        obtain ⟨t1, z, y, rfl, hT, rfl⟩ := h
        cases r
        obtain ⟨i1, i2, i3⟩ := ih rv
        obtain ⟨its2, r2, ⟨o, ho, hc, n, hd⟩, _⟩ := I.tuple hT
        obtain ⟨u1, u2, rfl, ru, _⟩ := vals2 r2
        obtain ⟨tk, rfl⟩ := ru
        have lp : LbP s.heap (.ref t1) z.cps.toList := ⟨t1, o, z, tk, u2, n, rfl, ho, hc, hd, rfl⟩
        have e := lp.of
        refine ⟨fun v m => ?_, by rw [List.map_cons, e, i2], by rw [List.map_cons, i3]; rfl⟩
        rcases List.mem_cons.mp m with m | m
        · rw [m, e]; exact lp
        · exact i1 v m
  obtain ⟨i1, i2, i3⟩ := each hp rv
  have nl : ∀ (h₁ : Heap) (a' : Addr), h₁.get? a' = some (seqObj "list" its.toArray 0) → ∀ o, h₁.get? a' = some o → o.cls ≠ .type "tuple" := by
    intro h₁ a' e o e2
    rw [e] at e2
    cases e2
    intro z
    injection (show Value.type "list" = Value.type "tuple" from z) with z
    exact absurd z (by decide)
  have lbk : ∀ (h₁ : Heap), (∀ b o, s.heap.get? b = some o → h₁.get? b = some o) → ∀ v ∈ its, lbOf h₁ v = lbOf s.heap v := fun h₁ k v m => ((i1 v m).keep fun b o e _ => k b o e).of
  refine SrtO.sorted_ord (swo_by (lbOf s.heap)) hl.isList (by rw [← rv.length]; exact hz) (fun h2 h₁ a' e k => ?_) fun out h1 h2 => ?_
  · have k' : ∀ b o, s.heap.get? b = some o → h₁.get? b = some o := fun b o e => (k b o e).2
    have base := lb_sortable (prog := X.prog) (w := X.w) (A := X.A.in1.in1) (s := { s with heap := h₁ }) (a := a') (vs := its) (zs := ls) (by omega) (fun v m => by
      show LbP h₁ v (lbOf h₁ v)
      rw [lbk h₁ k' v m]
      exact (i1 v m).keep fun b o e _ => k' b o e) (by
      show (its.map (lbOf h₁)).Nodup
      rw [List.map_congr_left (lbk h₁ k'), i2]
      exact nd) (nl h₁ a' e)
    intro h2' keep
    obtain ⟨κ, c1, c2⟩ := base h2' keep
    refine ⟨κ, c1, fun p q hp hq => ?_⟩
    have := c2 p q hp hq
    have e1 : SrtO.lt2 (fun v u => decide (lbOf h₁ v < lbOf h₁ u)) p q = SrtO.lt2 (fun v u => decide (lbOf s.heap v < lbOf s.heap u)) p q := by
      show decide (lbOf h₁ p.1 < lbOf h₁ q.1) = decide (lbOf s.heap p.1 < lbOf s.heap q.1)
      rw [lbk h₁ k' p.1 hp, lbk h₁ k' q.1 hq]
    rw [← e1]
    exact this
  · obtain ⟨ep, he'⟩ := PyProof.Rows.sortedAll_at s.heap its out.toArray
    have pm := h2.perm
    have lt : out.Pairwise fun v u => lbOf s.heap v < lbOf s.heap u := by
      refine lt_of_le_ne (h1.imp fun {x y} h => of_decide_eq_false h) ?_
      exact (pm.map _).nodup_iff.mpr (by rw [i2]; exact nd)
    have hout : Vals (out.map rfV) out := by
      have all : ∀ v ∈ out, ∃ t, v = Value.ref t := fun v m => by
        obtain ⟨t, _, _, _, _, _, e, _⟩ := i1 v (pm.mem_iff.mp m)
        exact ⟨t, e⟩
      clear he' lt h1 h2 pm
      induction out with
      | nil => exact .nil
      | cons v out ih =>
        obtain ⟨t, rfl⟩ := all v List.mem_cons_self
        exact .cons rfl (ih fun u m => all u (List.mem_cons_of_mem _ m))
    have small : (out.map rfV).length ≤ sizeLine := by rw [List.length_map, pm.length_eq, ← rv.length]; exact hz
    have zp : xs.zip ls = its.map fun v => (rfV v, lbOf s.heap v) := by
      rw [← i2, ← i3, List.zip_map']
    have g := q (out.map fun v => (rfV v, lbOf s.heap v)) (s.heap.objs.size + 1) (by rw [zp]; exact pm.map _) (List.pairwise_map.mpr lt) (I.hok.fresh (Nat.le_succ _))
    have e3 : (out.map fun v => (rfV v, lbOf s.heap v)).map (·.1) = out.map rfV := by rw [List.map_map]; rfl
    rw [e3] at g
    exact ⟨.ref _, upd H (s.heap.objs.size + 1) (.lst (out.map rfV)), I.laid (t' := s.toks) (fun _ _ => PyProof.Rows.sortedAll_old) (Nat.le_succ _) ⟨small, out, ep, hout, he'⟩, rfl, g⟩
end
/-! ### sorted, of all sorts that are served -/
def lbD : D → List Nat
  | .tup (.str z :: _) => z.cps.toList
  | .ztp (.str z :: _) => z.cps.toList
  | _ => []
def isLb : D → Bool
  | .tup [.str _, _] => true
  | .ztp [.str _, _] => true
  | _ => false
def strsD : List D → Option (List Str)
  | [] => some []
  | .str x :: r => (strsD r).map (x :: ·)
  | _ => none
theorem strsD_eq : ∀ {ds : List D} {xs : List Str}, strsD ds = some xs → ds = xs.map D.str
  | [], xs, h => by cases h; rfl
  | d :: ds, xs, h => by
    cases d with
    | str x =>
      simp only [strsD] at h
      cases q : strsD ds with
      | none => rw [q] at h; cases h
      | some ys => rw [q] at h; cases h; rw [strsD_eq q]; rfl
    | _ => cases h
theorem strsD_map (xs : List Str) : strsD (xs.map D.str) = some xs := by
  induction xs with
  | nil => rfl
  | cons x xs ih => simp only [List.map_cons, strsD, ih, Option.map_some]
def rdS (d : D) (st : Store) : Option (List Str) := match rdlOf d st with
  | some ds => strsD ds
  | none => none
open Classical in
noncomputable def oSortB : Fo0 := fun as st => match oSortedAll as st with
  | some ob => some ob
  | none => match as with
    | [d] => match rdS d st with
      | some xs => some (.lst ((srtS xs).map D.str))
      | none => match dctOf d st with
        | some p => match strsD p.1 with
          | some xs => some (.lst ((srtS xs).map D.str))
          | none => none
        | none => match rdlOf d st with
          | some ds => if ds.all isLb = true ∧ (ds.map lbD).Nodup then some (.lst (srtL lbD ds)) else none
          | none => none
    | _ => none
def rSortB (K : PySem.W.Frag) : List V → Hp → VK → Prop := fun xs H Q => rSortAll K xs H Q ∨ rSortLS K xs H Q ∨ rSortDS xs H Q ∨ rSortLP K xs H Q
theorem cr_sortB {X : Cx} (calm : X.calm = true) : CallR X (.builtin "sorted") (rSortB X.K) := CallR.or (cr_sortAll calm) (CallR.or cr_sortLS (CallR.or (cr_sortDS calm) cr_sortLP))
theorem kD_strs : ∀ {kvs : List (Key × V)} {ns : List Str}, kvs.map (fun kv => kD kv.1) = ns.map D.str → kvs.map (fun kv => kv.1) = ns.map Sum.inr
  | [], [], _ => rfl
  | [], _ :: _, h => by cases h
  | _ :: _, [], h => by cases h
  | (k, v) :: kvs, n :: ns, h => by
    simp only [List.map_cons, List.cons.injEq] at h ⊢
    refine ⟨?_, kD_strs h.2⟩
    cases k with
    | inl i => have e := h.1; simp only [kD] at e; cases e
    | inr i => have e := h.1; simp only [kD] at e; cases e; rfl
theorem lbs_ok {K : PySem.W.Frag} {r : Ad} {H : Hp} : ∀ {ds : List D} {vs : List V}, ds.all isLb = true → RDs K r H ds vs → Paired (fun x l => ∃ t z y, x = V.ref t ∧ SqT K H t [.str z, y] ∧ l = z.cps.toList) vs (ds.map lbD)
  | [], vs, _, h => by rw [h.nil_]; exact .nil
  | d :: ds, vs, a, h => by
    simp only [List.all_cons, Bool.and_eq_true] at a
    simp only [RDs] at h
    obtain ⟨v, vs', rfl, h1, h2⟩ := h
    refine .cons ?_ (lbs_ok a.2 h2)
    unfold isLb at a
    split at a
    · rename_i z y
      obtain ⟨t, ws, rfl, s, q⟩ := tup_ok h1
      obtain ⟨w1, w2, rfl, q1, _⟩ := q.two
      rw [q1.str_] at s
      exact ⟨t, z, w2, rfl, s, rfl⟩
    · rename_i z y
      simp only [RD] at h1
      obtain ⟨t, ws, rfl, s, q⟩ := h1
      obtain ⟨w1, w2, rfl, q1, _⟩ := q.two
      have s := s.1
      dsimp only at s
      rw [q1.str_] at s
      exact ⟨t, z, w2, rfl, s, rfl⟩
    · exact absurd a.1 Bool.false_ne_true
theorem RDs.zipP {K : PySem.W.Frag} {r : Ad} {H : Hp} : ∀ {ps : List (D × V)}, (∀ p ∈ ps, RD K r H p.1 p.2) → RDs K r H (ps.map (·.1)) (ps.map (·.2))
  | [], _ => RDs.nil
  | p :: ps, h => RDs.cons (h p List.mem_cons_self) (RDs.zipP fun q m => h q (List.mem_cons_of_mem _ m))
theorem RDs.mems {K : PySem.W.Frag} {r : Ad} {H : Hp} : ∀ {ds : List D} {vs : List V}, RDs K r H ds vs → ∀ p ∈ ds.zip vs, RD K r H p.1 p.2
  | [], _, _, p, m => by simp at m
  | d :: ds, vs, h, p, m => by
    simp only [RDs] at h
    obtain ⟨v, vs', rfl, h1, h2⟩ := h
    rw [List.zip_cons_cons] at m
    rcases List.mem_cons.mp m with m | m
    · subst m; exact h1
    · exact RDs.mems h2 p m
theorem zip_lb : ∀ (es : List D) (ws : List V), es.length = ws.length → ((es.zip ws).map fun z => lbD z.1) = es.map lbD ∧ ws.zip (es.map lbD) = (es.zip ws).map fun z => (z.2, lbD z.1)
  | [], [], _ => ⟨rfl, rfl⟩
  | [], _ :: _, h => by cases h
  | _ :: _, [], h => by cases h
  | e :: es, w :: ws, h => by
    obtain ⟨h1, h2⟩ := zip_lb es ws (by simpa using h)
    exact ⟨by simp [h1], by simp [h2]⟩
theorem oSortB_ok {K : PySem.W.Frag} : FoS K (rSortB K) oSortB := by
  intro r H st ds vs ob Q S hs h P
  unfold oSortB at h
  split at h
  · rename_i ob' e
    cases h
    exact .inl (oSortedAll_ok r H st ds vs ob Q S hs e P)
  · split at h
    · rename_i d
      obtain ⟨v, rfl, hv⟩ := hs.one
      split at h
      · rename_i xs e
        cases h
        unfold rdS at e
        split at e
        · rename_i es e2
          obtain ⟨a, ws, rfl, s, t⟩ := rdlOf_ok S hv e2
          rw [strsD_eq e] at t
          rw [t.strs] at s
          exact .inr (.inl ⟨a, xs, rfl, s, fun p hp => P p _ hp ⟨_, rfl, RDs.ofStrs _⟩⟩)
        · cases e
      · split at h
        · rename_i p e
          obtain ⟨ks, xs⟩ := p
          split at h
          · rename_i ys e2
            cases h
            obtain ⟨a, kvs, rfl, s, k, t⟩ := dctOf_ok S hv e
            have e3 := strsD_eq e2
            exact .inr (.inr (.inl ⟨a, kvs, ys, rfl, s, kD_strs (by rw [← k]; exact e3), fun p hp => P p _ hp ⟨_, rfl, RDs.ofStrs _⟩⟩))
          · cases h
        · split at h
          · rename_i es e2
            split at h
            · rename_i hh
              obtain ⟨h1, h2⟩ := hh
              cases h
              obtain ⟨a, ws, rfl, s, t⟩ := rdlOf_ok S hv e2
              refine .inr (.inr (.inr ⟨a, ws, es.map lbD, rfl, s, lbs_ok h1 t, h2, fun ps p pm lt hp => ?_⟩))
              have L := t.length
              have f1 : (es.zip ws).map (·.1) = es := List.map_fst_zip (by omega)
              have f2 : (es.zip ws).map (·.2) = ws := List.map_snd_zip (by omega)
              have nd2 : ((es.zip ws).map fun z => lbD z.1).Nodup := by
                rw [(zip_lb es ws L).1]; exact h2
              have s1 : (srtL (fun z : D × V => lbD z.1) (es.zip ws)).map (·.1) = srtL lbD es := by
                refine lt_only (f := lbD) ?_ ?_ (srtL_lt h2)
                · have p1 := (srtL_perm (f := fun z : D × V => lbD z.1) (es.zip ws)).map (·.1)
                  rw [f1] at p1
                  exact p1.trans (srtL_perm es).symm
                · exact List.pairwise_map.mpr (srtL_lt nd2)
              have zp := (zip_lb es ws L).2
              have s2 : ps = (srtL (fun z : D × V => lbD z.1) (es.zip ws)).map fun z => (z.2, lbD z.1) := by
                refine lt_only (f := fun z : V × List Nat => z.2) ?_ lt (List.pairwise_map.mpr (srtL_lt nd2))
                rw [zp] at pm
                exact pm.trans ((srtL_perm _).map _).symm
              refine P p _ hp ⟨_, rfl, ?_⟩
              rw [← s1, s2, List.map_map]
              exact RDs.zipP fun z m => t.mems z ((srtL_perm _).mem_iff.mp m)
            · cases h
          · cases h
    · cases h
end FW

set_option maxHeartbeats 4000000
namespace FW
open PySem PySem.Spec L2

/-! ### sets that are made of a list, of any sort of keys, and what they hold -/
theorem paired_perm {α β : Type} {F : α → β → Prop} {as bs : List α} (p : as.Perm bs) : ∀ {ks : List β}, Paired F as ks → ∃ ls, ls.Perm ks ∧ Paired F bs ls := by
  induction p with
  | nil => intro ks h; exact ⟨ks, .refl _, h⟩
  | cons x p ih =>
    intro ks h
    cases h with
    | cons r t =>
      obtain ⟨ls, q1, q2⟩ := ih t
      exact ⟨_ :: ls, q1.cons _, .cons r q2⟩
  | swap x y l =>
    intro ks h
    cases h with
    | cons r t =>
      cases t with
      | cons r2 t => exact ⟨_, .swap _ _ _, .cons r2 (.cons r t)⟩
  | trans p q ih1 ih2 =>
    intro ks h
    obtain ⟨ls, q1, q2⟩ := ih1 h
    obtain ⟨ms, q3, q4⟩ := ih2 q2
    exact ⟨ms, q3.trans q1, q4⟩
section
variable {P : Program} {w : World} {κ : Type} [DecidableEq κ] (knd : PySem.KeyKind P w κ)
def InS (e : Int × Value) (k : κ) : Prop := knd.is k e.2 = true ∧ e.1 = knd.hash k ∧ e.2.scannable = true
/-- a set at a, of the keys ks -/
def SetG (h : Heap) (a : Addr) (ks : List κ) : Prop :=
  ∃ o es ep t, h.get? a = some o ∧ o.ExactSet ∧ o.data = .set es ep t ∧ Paired (InS knd) es.toList ks ∧ ks.Nodup ∧ es.size < scanBound ∧ t.fits es.size = true ∧ Ris t.place.toList ∧ (w.params.followText "set-order" = true ∨ t.led = true)
variable {knd}
theorem SetG.keep {h h' : Heap} {a : Addr} {ks : List κ} (R : SetG knd h a ks) (k : ∀ o, h.get? a = some o → h'.get? a = some o) : SetG knd h' a ks := by
  obtain ⟨o, es, ep, t, ho, rest⟩ := R
  exact ⟨o, es, ep, t, k o ho, rest⟩
theorem SetG.perm {h : Heap} {a : Addr} {ks : List κ} (R : SetG knd h a ks) : True := trivial
theorem ins_elems : ∀ {es : List (Int × Value)} {ks : List κ}, Paired (InS knd) es ks → ElemsOf knd es
  | _, _, .nil => fun e m => by simp at m
  | _, _, .cons (b := k) h t => fun e m => by
    rcases List.mem_cons.mp m with m | m
    · rw [m]; exact ⟨⟨k, h.1, h.2.1⟩, h.2.2⟩
    · exact ins_elems t e m
theorem ins_mem : ∀ {es : List (Int × Value)} {ks : List κ}, Paired (InS knd) es ks → ∀ k, k ∈ ks ↔ ∃ e ∈ es, knd.is k e.2 = true
  | _, _, .nil, k => by simp
  | _, _, .cons (a := e) (b := k0) h t, k => by
    rw [List.mem_cons, ins_mem t k]
    constructor
    · rintro (rfl | ⟨f, m, q⟩)
      · exact ⟨e, List.mem_cons_self, h.1⟩
      · exact ⟨f, List.mem_cons_of_mem _ m, q⟩
    · rintro ⟨f, m, q⟩
      rcases List.mem_cons.mp m with m | m
      · subst m; exact .inl (knd.inj _ _ _ q h.1)
      · exact .inr ⟨f, m, q⟩
variable {A : Around} {E : Value → Shared → Prop} {s : Shared} {a : Addr} {ks : List κ}
theorem setG_store {tell : Bool → Sem Unit} (ht : ∀ (b : Bool) (s₁ : Shared) (Q' : Unit → Shared → Prop), Q' () s₁ → wpAny (model P w) A (tell b) Q' E s₁)
    {o : Obj} {es : Array (Int × Value)} {ep : Nat} {t : SetTable} (ho : s.heap.get? a = some o) (hx : o.ExactSet) (hd : o.data = .set es ep t)
    {fs : Array (Int × Value)} {u : SetTable} {ls : List κ} (pr : Paired (InS knd) fs.toList ls) (nd : ls.Nodup) (room : fs.size < scanBound) (fit : u.fits fs.size = true) (ri : Ris u.place.toList) (le : w.params.followText "set-order" = true ∨ u.led = true) {wasDummy : Bool} {R : Option Bool → Shared → Prop}
    (hR : ∀ h' ls', Heap.SameBut a s.heap h' → SetG knd h' a ls' → ls'.Perm ls → R (some true) { s with heap := h' }) :
    wpAny (model P w) A (do
        storeSet a fs u
        if (!wasDummy && u.tooFull) = true then do
            tell (relayAll u fs (SetTable.grown fs.size)).2.2
            storeSet a (relayAll u fs (SetTable.grown fs.size)).1 (relayAll u fs (SetTable.grown fs.size)).2.1
            pure (some true)
          else pure (some true)) R E s := by
  apply wpAny_bind
  refine wpAny_storeSet_of ho hd ?_ (fits_of_scanBound room)
  have o1 := store_at (es' := fs) (t' := u) ho hd
  have same1 := Heap.SameBut.update s.heap a (Obj.putSet fs u)
  split
  · have p1 := relayAll_perm u fs (SetTable.grown fs.size)
    have p2 := relayAll_fits u fs (SetTable.grown fs.size)
    have p3 := relayAll_ris u fs (SetTable.grown fs.size)
    have p4 := relayAll_led u fs (SetTable.grown fs.size)
    generalize relayAll u fs (SetTable.grown fs.size) = laid at p1 p2 p3 p4 ⊢
    obtain ⟨gs, v, gave⟩ := laid
    simp only at p1 p2 p3 p4 ⊢
    have size_eq : gs.size = fs.size := by rw [← Array.length_toList, ← Array.length_toList]; exact p1.length_eq
    apply wpAny_bind
    apply ht
    apply wpAny_bind
    refine wpAny_storeSet_of o1 rfl ?_ (fits_of_scanBound (by rw [size_eq]; exact room))
    have o2 := store_at (es' := gs) (t' := v) o1 rfl
    obtain ⟨ls', q1, q2⟩ := paired_perm p1.symm pr
    exact wpAny_pure (hR _ ls' (same1.trans (Heap.SameBut.update _ a _)) ⟨_, gs, _, v, o2, hx, rfl, q2, q1.nodup_iff.mpr nd, by rw [size_eq]; exact room, p2, p3, le.imp id fun z => by rw [p4]; exact z⟩ q1)
  · exact wpAny_pure (hR _ ls same1 ⟨_, fs, _, u, o1, hx, rfl, pr, nd, room, fit, ri, le⟩ (.refl _))
theorem setG_add {k : κ} {key : Value} {Q : Bool → Shared → Prop} (hk : knd.is k key = true) (hs : key.scannable = true) (R : SetG knd s.heap a ks) (room : ks.length + 1 < scanBound)
    (hQ : ∀ h' ls, Heap.SameBut a s.heap h' → SetG knd h' a ls → ls.Perm (if k ∈ ks then ks else k :: ks) → ∀ b, Q b { s with heap := h' }) :
    wpAny (model P w) A (setAddHashed a key (knd.hash k)) Q E s := by
  obtain ⟨o, es, ep, t, ho, hx, hd, pr, nd, hb, hf, ri, le⟩ := R
  have el := ins_elems pr
  have len : es.size = ks.length := by rw [← Array.length_toList]; exact Paired.length pr
  unfold setAddHashed setAddHashedIn
  refine wpAny_holding (wpAny_bind (wpAny_setState_of ho hd hf ?_))
  dsimp only
  rw [byScan_of hs hb el]
  simp only [↓reduceIte]
  unfold setAddByScan
  apply wpAny_bind
  refine wpAny_bind (wpAny_rule ?_)
  refine wpAny_bind (wpAny_setScan_of hk ho hd hf el ?_)
  cases find : List.findIdx? (fun e => knd.is k e.2) es.toList with
  | some j =>
    dsimp only
    obtain ⟨lt, yes, _⟩ := List.findIdx?_eq_some_iff_getElem.mp find
    have there : k ∈ ks := (ins_mem pr k).mpr ⟨_, List.getElem_mem lt, yes⟩
    exact wpAny_pure (wpAny_pure (hQ s.heap ks (Heap.SameBut.refl a s.heap) ⟨o, es, ep, t, ho, hx, hd, pr, nd, hb, hf, ri, le⟩ (by rw [if_pos there]) _))
  | none =>
    dsimp only
    have away : k ∉ ks := fun z => by
      obtain ⟨e, m, q⟩ := (ins_mem pr k).mp z
      have := List.findIdx?_eq_none_iff.mp find e m
      rw [q] at this
      cases this
    have gave : ∀ (b : Bool) {s₁ : Shared} {Q' : Unit → Shared → Prop}, Q' () s₁ → wpAny (model P w) A (match b with | true => rule "set.scan.the-table-gave-way" | false => pure ()) Q' E s₁ := by
      intro b s₁ Q' q
      cases b with
      | true => exact wpAny_rule q
      | false => exact wpAny_pure q
    have r1 := layNew_perm t es (knd.hash k) key
    have r2 := layNew_fits t es (knd.hash k) key
    have r3 := layNew_ris t es (knd.hash k) key ri
    have r4 := layNew_led t es (knd.hash k) key
    generalize layNew t es (knd.hash k) key = laid at r1 r2 r3 r4 ⊢
    obtain ⟨fs, u, dummy, way⟩ := laid
    simp only at r1 r2 r3 r4 ⊢
    rw [Array.toList_push] at r1
    have pc : fs.toList.Perm ((knd.hash k, key) :: es.toList) := r1.trans (List.perm_append_singleton _ _)
    obtain ⟨ls, q1, q2⟩ := paired_perm pc.symm (Paired.cons (F := InS knd) (a := (knd.hash k, key)) (b := k) ⟨hk, rfl, hs⟩ pr)
    have nd1 : ls.Nodup := q1.nodup_iff.mpr (List.nodup_cons.mpr ⟨away, nd⟩)
    have sz : fs.size = ks.length + 1 := by
      rw [← Array.length_toList, pc.length_eq, List.length_cons, Array.length_toList, len]
    have led1 : w.params.followText "set-order" = true ∨ u.led = true := le.imp id fun z => by rw [r4]; exact z
    have fin : ∀ h' ls', Heap.SameBut a s.heap h' → SetG knd h' a ls' → ls'.Perm ls → ∀ b, Q b { s with heap := h' } := fun h' ls' sb r p => hQ h' ls' sb r (by rw [if_neg away]; exact p.trans q1)
    refine wpAny_bind (gave _ ?_)
    split
    · apply wpAny_bind
      rw [hashByValue_scannable 8 hs]
      refine wpAny_pure ?_
      refine setG_store (knd := knd) ?_ ho hx hd q2 nd1 (by rw [sz]; exact room) ?_ ?_ ?_ ?_
      · intro b s₁ Q' q
        exact gave b q
      · first | (split <;> first | exact r2 | exact SetTable.fits_plain_off r2) | exact r2
      · first | (split <;> exact r3) | exact r3
      · first | (split <;> exact led1) | exact led1
      · intro h' ls' sb r p; dsimp only; exact wpAny_pure (fin h' ls' sb r p _)
    · refine wpAny_bind (wpAny_pure ?_)
      simp only [↓reduceIte]
      refine setG_store (knd := knd) ?_ ho hx hd q2 nd1 (by rw [sz]; exact room) r2 r3 led1 ?_
      · intro b s₁ Q' q
        exact gave b q
      · intro h' ls' sb r p; dsimp only; exact wpAny_pure (fin h' ls' sb r p _)
end
end FW

set_option maxHeartbeats 4000000
namespace FW
open PySem PySem.Spec PyProof.Rows L2
section
variable {P : Program} {w : World} {κ : Type} [DecidableEq κ] {knd : PySem.KeyKind P w κ} {A : Around} {E : Value → Shared → Prop}
theorem setG_loop {I : Addr} {fp wr : List Addr} {G : Array GenState → Array GenState → Prop} {n : Nat} {Pv : Nat → Value → Prop} {St : Nat → Shared → Prop} {R : Result → Shared → Prop}
    (W : WalksS P w A.in1 I fp wr G n Pv St) (S : Addr) (off : S ∉ fp) (ks : List κ) (hn : n = ks.length) (hb : ks.length + 1 < scanBound) (hv : ∀ i v, Pv i v → ∃ k, ks[i]? = some k ∧ knd.is k v = true ∧ v.scannable = true) :
    ∀ (d i : Nat) (s : Shared), n - i = d → i ≤ n → St i s → (∃ ls, SetG knd s.heap S ls ∧ (∀ k, k ∈ ls ↔ k ∈ ks.take i) ∧ ls.length ≤ i) →
      (∀ s' ls, Moved (S :: wr) G s s' → SetG knd s'.heap S ls → (∀ k, k ∈ ls ↔ k ∈ ks) → ls.length ≤ n → R (.ok (.ret .none)) s') →
      codeAny (model P w) A (.builtin "set.update.loop" ⟨[.ref S, .ref I], []⟩) R s := by
  have off2 : S ∉ wr := fun h => off (W.sub _ h)
  have more : ∀ b ∈ wr, b ∈ S :: wr := fun b m => List.mem_cons_of_mem _ m
  intro d
  induction d with
  | zero =>
    rintro i s hd hi hst ⟨ls, g, mem, len⟩ hR
    have hin : i = n := by omega
    subst hin
    refine codeAny_builtin F.entry_set_update_loop ?_
    rw [Around.under_plainId F.plain_set_update_loop _]
    refine wpAny_bind (W.done s _ _ hst fun s' mv => ?_)
    have all : ks.take i = ks := List.take_of_length_le (by omega)
    rw [all] at mem
    show wpAny _ A.in1 (ret Value.none) _ _ s'
    exact wpAny_pure (hR s' ls (mv.mono more) (g.keep fun o e => mv.heap S o off2 e) mem len)
  | succ d ih =>
    rintro i s hd hi hst ⟨ls, g, mem, len⟩ hR
    have lt : i < n := by omega
    refine codeAny_builtin F.entry_set_update_loop ?_
    rw [Around.under_plainId F.plain_set_update_loop _]
    refine wpAny_bind (W.item i s _ _ lt hst fun v s' hP hst' mv => ?_)
    obtain ⟨k, hk, is, sc⟩ := hv i v hP
    have g' := g.keep (h' := s'.heap) fun o e => mv.heap S o off2 e
    show wpAny _ A.in1 (holding [v] (setAdd S v) >>= _) _ _ s'
    refine wpAny_bind (wpAny_holding ?_)
    unfold setAdd
    refine wpAny_holding ?_
    refine wpAny_bind (knd.pyHash (k := k) is ?_)
    refine setG_add (s := { s' with toks := s'.toks + 1 }) is sc g' (by omega) fun h' ls' sb g2 pm b => ?_
    have mem' : ∀ j, j ∈ ls' ↔ j ∈ ks.take (i + 1) := fun j => by
      rw [List.take_add_one, hk, pm.mem_iff]
      simp only [Option.toList_some, List.mem_append, List.mem_singleton, ← mem j]
      split
      · exact ⟨.inl, fun z => z.elim id fun e => by rw [e]; assumption⟩
      · rw [List.mem_cons]; exact Or.comm
    have len' : ls'.length ≤ i + 1 := by
      rw [pm.length_eq]
      split
      · omega
      · rw [List.length_cons]; omega
    refine wpAny_pure ⟨plainId_quiet F.plain_set_update_loop _, ih (i + 1) _ (by omega) lt (W.frame _ s' _ _ hst' (Nat.le_succ _) fun b hb o e => ?_) ⟨ls', g2, mem', len'⟩ fun s'' ls2 mv2 g3 m3 l3 => ?_⟩
    · rw [sb.2 b (fun z : b = S => off (by rw [← z]; exact hb))]
      exact e
    · refine hR s'' ls2 (Moved.trans W.gtrans ((mv.mono more).then_heap (Nat.le_succ _) fun b o hb e => ?_) mv2) g3 m3 l3
      rw [sb.2 b (fun z : b = S => hb (by rw [z]; exact List.mem_cons_self))]
      exact e
theorem setG_fresh {h : Heap} {a : Addr} (ho : h.get? a = some { cls := .type "set", dict := none, data := .set #[] 0 (.fresh 0 0 (!w.params.followText "set-order")) }) : SetG knd h a [] := by
  refine ⟨_, #[], 0, _, ho, ⟨rfl, rfl, rfl⟩, rfl, .nil, List.Pairwise.nil, by decide, by rfl, List.Pairwise.nil, ?_⟩
  show _ ∨ (!w.params.followText "set-order") = true
  cases w.params.followText "set-order" with
  | false => exact .inr rfl
  | true => exact .inl rfl
abbrev freshO (w : World) : Obj := { cls := .type "set", dict := none, data := .set #[] 0 (.fresh 0 0 (!w.params.followText "set-order")) }
set_option maxHeartbeats 8000000 in
/-- set(xs) of a list -/
theorem call_setG {s : Shared} {l : Addr} {items : Array Value} (ks : List κ) {Q : Value → Shared → Prop} (hh : A.handled = none) (hl : s.heap.IsList l items) (hz : items.size = ks.length) (hv : ∀ (i : Nat) (v : Value), items[i]? = some v → ∃ k, ks[i]? = some k ∧ knd.is k v = true ∧ v.scannable = true) (hb : ks.length + 1 < scanBound)
    (h : ∀ (h' : Heap) (tk : Nat) (ls : List κ), SetG knd h' s.heap.objs.size ls → (∀ k, k ∈ ls ↔ k ∈ ks) → ls.length ≤ ks.length → (∀ b o, s.heap.get? b = some o → h'.get? b = some o) → Q (.ref s.heap.objs.size) { s with heap := h', toks := tk }) :
    wpAny (model P w) A (call (.type "set") [.ref l]) Q E s := by
  obtain ⟨c, tl, hmro⟩ := F.called_set.mro
  have hmade := F.called_set.made
  have hsub := F.called_set.sub
  refine wpAny_call (codeAny_of_tree ?_)
  show wpAny _ _ (callAny (.type "set") _) _ _ _
  refine wpAny_pure ⟨Code.quiet_builtin _ (by decide +kernel), codeAny_builtin F.entry_type_call ?_⟩
  rw [Around.under_plain (weight_type_call_type "set" [.ref l] []) rfl]
  have k1 := F.called_set.notType
  have k2 := F.called_set.canCreate
  have k3 := F.typeCall_set_1 (.ref l)
  repeat (any_goals (first | assumption | wp_step))
  refine codeAny_mono (code_set_led1 (.ref l) (E := E) (Q₁ := fun obj s₁ => obj = .ref s.heap.objs.size ∧ s₁ = { s with heap := s.heap.push (freshO w) }) ⟨rfl, rfl⟩) fun r s₁ hr => ?_
  cases r with
  | error e => exact hr
  | ok fl =>
    cases fl with
    | ret obj =>
      obtain ⟨rfl, rfl⟩ := hr
      have hS : (s.heap.push (freshO w)).get? s.heap.objs.size = some (freshO w) := Heap.get?_push_size _ rfl
      have hT : Shared.TypeIs { s with heap := s.heap.push (freshO w) } (.ref s.heap.objs.size) "set" := ⟨_, hS, rfl⟩
      have k4 := F.called_set.init.lookup
      have k5 := F.called_set.init.bind (.ref s.heap.objs.size)
      repeat (any_goals (first | assumption | wp_step))
      refine codeAny_mono (codeAny_call_builtin (R := wants (fun r s₂ => r = .none ∧ ∃ h' tk ls, s₂ = { s with heap := h', toks := tk } ∧ SetG knd h' s.heap.objs.size ls ∧ (∀ k, k ∈ ls ↔ k ∈ ks) ∧ ls.length ≤ ks.length ∧
          (∀ b o, s.heap.get? b = some o → h'.get? b = some o)) E) F.called_set.init.plain F.entry_set_init (check_set_init_1 hT ?_)) fun r₂ s₂ hr₂ => ?_
      · obtain ⟨ol, hol, hcl, nl, hdl⟩ := hl
        obtain ⟨ocls, odict, odata, oslots⟩ := ol
        simp only at hcl hdl
        subst hcl; subst hdl
        have hol' : (s.heap.push (freshO w)).get? l = some { cls := .type "list", dict := odict, data := .seq items nl, slots := oslots } := Heap.get?_push_of_some _ hol
        have k6 := F.sub_list_set
        have k7 := F.sub_list_frozenset
        have k8 : (Value.type "list" == Value.type "dict") = false := by decide
        have hl1 : (s.heap.push (freshO w)).IsList l items := ⟨_, hol', rfl, nl, rfl⟩
        unfold Builtin.«set.__init__» noKeywords Builtin.Frozenset.updateFrom
        generalize hPI : pyIter = PI
        wp_walk
        subst hPI
        refine wpAny_pyIter_list hl1 ?_
        refine wpAny_bind (wpAny_runValue ?_)
        have lt0 : l < s.heap.objs.size := Heap.lt_size hol
        have free3 : A.in1.in1.in1.handled = none := by simp [hh]
        have ne0 : l ≠ (s.heap.push (freshO w)).objs.size := by rw [Heap.size_push]; exact Nat.ne_of_lt (Nat.lt_succ_of_lt lt0)
        have off : s.heap.objs.size ∉ [(s.heap.push (freshO w)).objs.size, l] := by
          rw [Heap.size_push]
          simp only [List.mem_cons, List.mem_singleton, List.not_mem_nil, or_false, not_or]
          exact ⟨Nat.ne_of_lt (Nat.lt_succ_self _), Nat.ne_of_gt lt0⟩
        refine setG_loop (knd := knd) ((Walks.list free3 _ l ne0 items).toS) s.heap.objs.size off ks hz hb hv (items.size - 0) 0 _ (by omega) (Nat.zero_le _)
          ⟨⟨_, Heap.get?_push_size _ rfl, rfl, rfl⟩, (hl1.push _)⟩ ?c1 ?c2
        case c1 =>
          have at_ : ((s.heap.push (freshO w)).push { cls := .type "list_iterator", data := .fields #[.ref l, .int 0 0] }).get? s.heap.objs.size = some (freshO w) := Heap.get?_push_of_some _ hS
          exact ⟨[], setG_fresh at_, by simp, Nat.le_refl 0⟩
        case c2 =>
          intro s' ls mv g m len
          obtain ⟨h', g2, d', tk', os'⟩ := s'
          have eg : g2 = s.gens := mv.gens
          have ed : d' = s.drawn := mv.drawn
          have eo : os' = s.os := mv.os
          subst eg ed eo
          show wpAny _ _ _ _ _ _
          refine wpAny_pure ?_
          show wpAny _ _ (ret Value.none) _ _ _
          refine wpAny_pure ⟨rfl, h', tk', ls, rfl, g, m, by rw [← hz]; exact len, fun b o e => ?_⟩
          have b0 : b < s.heap.objs.size := Heap.lt_size e
          have b1 : b ≠ (s.heap.push (freshO w)).objs.size := by rw [Heap.size_push]; exact Nat.ne_of_lt (Nat.lt_succ_of_lt b0)
          exact mv.heap b o (by simp only [List.mem_cons, List.mem_singleton, List.not_mem_nil, or_false, not_or]; exact ⟨Nat.ne_of_lt b0, b1⟩) (Heap.get?_push_of_some _ (Heap.get?_push_of_some _ e))
      · cases r₂ with
        | error e => exact hr₂
        | ok fl₂ =>
          cases fl₂ with
          | ret r =>
            obtain ⟨rfl, h', tk, ls, rfl, g, m, len, k⟩ := hr₂
            repeat (any_goals (first | assumption | wp_step))
            exact h _ _ ls g m len k
          | _ => exact hr₂.elim
    | _ => exact hr.elim
end
end FW

set_option maxHeartbeats 4000000
namespace FW
open PySem PySem.Spec PyProof.Rows L2

/-! ### sorted(set(xs)), len(set(xs)) -/
/-- the set of the keys ks at a -/
def SetGO (P : Program) (w : World) (a : Addr) (ks : List Key) : HO := .ext fun h => SetG (mixKind P w) h a ks
section
variable {X : Cx}
def rSetL (X : Cx) : List V → Hp → VK → Prop := fun vs H Q => ∃ (a : Addr) (ks : List Key), vs = [V.ref a] ∧ SqL X.K H a (ks.map kV) ∧ ks.length + 1 < scanBound ∧
  ∀ (p : Addr) (ls : List Key), H p = none → (∀ k, k ∈ ls ↔ k ∈ ks) → ls.Nodup → ls.length ≤ ks.length → Q (.ref p) (upd H p (SetGO X.prog X.w p ls))
theorem cr_setL (calm : X.calm = true) : CallR X (.type "set") (rSetL X) := by
  intro pins s σ H vs us Q I rel hh
  obtain ⟨a, ks, rfl, hs, hb, q⟩ := hh
  obtain ⟨its, rv, hl, hz⟩ := I.list hs
  rw [Vals.ref1 rel]
  have len : its.length = ks.length := by rw [← rv.length, List.length_map]
  have each : ∀ (ks : List Key) (its : List Value), Vals (ks.map kV) its → ∀ (i : Nat) (v : Value), its[i]? = some v → ∃ k, ks[i]? = some k ∧ (mixKind X.prog X.w).is k v = true ∧ v.scannable = true := by
    intro ks
    induction ks with
    | nil => intro its rv i v e; cases rv; simp at e
    | cons k ks ih =>
      intro its rv i v e
      rw [List.map_cons] at rv
      cases rv with
      | cons r rv =>
        cases i with
        | zero =>
          simp only [List.getElem?_cons_zero, Option.some.injEq] at e
          subst e
          exact ⟨k, rfl, kV_is (P := X.prog) (w := X.w) r, key_scan r⟩
        | succ i => exact ih _ rv i v (by simpa using e)
  refine call_setG (knd := mixKind X.prog X.w) ks (I.ok.hd calm) hl.isList (by rw [List.size_toArray]; exact len) (fun i v e => each ks its rv i v (by simpa using e)) hb fun h' tk ls g m l k => ?_
  have nd : ls.Nodup := by obtain ⟨_, _, _, _, _, _, _, _, nd, _⟩ := g; exact nd
  refine ⟨.ref s.heap.objs.size, upd H s.heap.objs.size (SetGO X.prog X.w s.heap.objs.size ls), I.laid (t' := tk) k (Nat.le_refl _) ?_, rfl, q _ ls (I.hok.fresh (Nat.le_refl _)) m nd l⟩
  have g0 := g
  obtain ⟨o, es, ep, t, ho, _⟩ := g0
  exact ⟨g, ⟨o, ho⟩, fun h1 h2 g1 k1 => g1.keep k1⟩
/-- sorted of a set: texts | ints -/
def rSortSet (X : Cx) : List V → Hp → VK → Prop := fun vs H Q => ∃ (a : Addr) (ls : List Key), vs = [V.ref a] ∧ H a = some (SetGO X.prog X.w a ls) ∧ ls.length ≤ sizeLine ∧
  ((∃ xs : List Str, ls = xs.map Sum.inr ∧ ∀ p, H p = none → Q (.ref p) (upd H p (.lst ((srtS xs).map V.str)))) ∨ ∃ ns : List Int, ls = ns.map Sum.inl ∧ ∀ p, H p = none → Q (.ref p) (upd H p (.lst ((srtI ns).map V.int))))
theorem ins_vals {P : Program} {w : World} : ∀ {es : List (Int × Value)} {ks : List Key}, Paired (InS (mixKind P w)) es ks → Vals (ks.map kV) (es.map (·.2))
  | _, _, .nil => .nil
  | _, _, .cons (a := e) (b := k) h t => by
    refine .cons ?_ (ins_vals t)
    rcases keyIs_shape (show keyIs k e.2 = true from h.1) with ⟨i, t, rfl, ev⟩ | ⟨x, t, rfl, ev⟩
    · show RelV _ e.2
      rw [ev]; exact ⟨t, rfl⟩
    · show RelV _ e.2
      rw [ev]; exact ⟨t, rfl⟩
theorem perm_vals {xs : List V} {us vs : List Value} (p : us.Perm vs) (h : Vals xs us) : ∃ ys, ys.Perm xs ∧ Vals ys vs := by
  have flip : ∀ {xs : List V} {us : List Value}, Vals xs us → Paired (fun u x => RelV x u) us xs := by
    intro xs us h
    induction h with
    | nil => exact .nil
    | cons r _ ih => exact .cons r ih
  have back : ∀ {xs : List V} {us : List Value}, Paired (fun u x => RelV x u) us xs → Vals xs us := by
    intro xs us h
    induction h with
    | nil => exact .nil
    | cons r _ ih => exact .cons r ih
  obtain ⟨ys, q1, q2⟩ := paired_perm p (flip h)
  exact ⟨ys, q1, back q2⟩
theorem cr_sortSet (calm : X.calm = true) : CallR X (.builtin "sorted") (rSortSet X) := by
  intro pins s σ H vs us Q I rel hh
  obtain ⟨a, ls, rfl, ha, hz, q⟩ := hh
  obtain ⟨⟨o, es, ep, t, ho, hx, hd, pr, nd, hb, hf, ri, le⟩, _, _⟩ := I.hok a _ ha
  rw [Vals.ref1 rel]
  apply Calls.call_function_entry kind_sorted plain_sorted entry_sorted (args_sorted1 _)
  unfold Builtin.«sorted»
  apply wpAny_bind (m := checkCount "sorted" 1 1 _)
  apply wpAny_pure
  refine wpAny_bind (collect_set (A := X.A.in1) (I.ok.hd calm) ⟨o, ho, hx.1, hd⟩ hf hb ri le fun s1 out k1 hz1 g1 o1 pm => ?_)
  have J : Inv X pins σ H s1 := I.call' (ch := []) o1 (Un.kept k1) (I.hok.kept k1) (by rw [g1]; exact I.bare) (fun _ z => nomatch z)
  obtain ⟨ys, y1, y2⟩ := perm_vals pm.symm (ins_vals pr)
  have lo : out.length = ls.length := by rw [← y2.length, y1.length_eq, List.length_map]
  rcases q with ⟨xs, rfl, q⟩ | ⟨ns, rfl, q⟩
  · have e0 : (xs.map Sum.inr).map kV = xs.map V.str := by rw [List.map_map]; rfl
    rw [e0] at y1
    have hst : ∃ zs, zs.Perm xs ∧ StrsAre out zs := by
      have all : ∀ y ∈ ys, ∃ x, y = V.str x := fun y m => by
        obtain ⟨x, _, e⟩ := List.mem_map.mp (y1.mem_iff.mp m)
        exact ⟨x, e.symm⟩
      have un : ∀ ys : List V, (∀ y ∈ ys, ∃ x, y = V.str x) → ∃ zs : List Str, ys = zs.map V.str := by
        intro ys
        induction ys with
        | nil => exact fun _ => ⟨[], rfl⟩
        | cons y ys ih =>
          intro h
          obtain ⟨x, rfl⟩ := h y List.mem_cons_self
          obtain ⟨zs, rfl⟩ := ih fun u m => h u (List.mem_cons_of_mem _ m)
          exact ⟨x :: zs, rfl⟩
      obtain ⟨zs, rfl⟩ := un ys all
      have p2 := y1.map (fun v => match v with | V.str x => x | _ => Str.empty)
      simp only [List.map_map, Function.comp_def, List.map_id'] at p2
      exact ⟨zs, p2, y2.strs⟩
    obtain ⟨zs, z1, z2⟩ := hst
    have se : srtS zs = srtS xs := srtS_only ((srtS_perm zs).trans z1) (srtS_sorted zs)
    rw [List.length_map] at hz lo
    refine sort_tail (s := s1) J (swo_by sgV) (by rw [lo]; exact hz) (fun h a h2 => str_sortable z2 h2) (fun out' o1 o2 => vals_of_strs (strs_out z2 o1 o2)) (by rw [List.length_map, (srtS_perm zs).length_eq, z1.length_eq]; exact hz) ?_ fun v s' e => ⟨_, rfl, e⟩
    rw [se]
    exact q
  · have e0 : (ns.map Sum.inl).map kV = ns.map V.int := by rw [List.map_map]; rfl
    rw [e0] at y1
    have hst : ∃ zs, zs.Perm ns ∧ IntsAre out zs := by
      have all : ∀ y ∈ ys, ∃ x, y = V.int x := fun y m => by
        obtain ⟨x, _, e⟩ := List.mem_map.mp (y1.mem_iff.mp m)
        exact ⟨x, e.symm⟩
      have un : ∀ ys : List V, (∀ y ∈ ys, ∃ x, y = V.int x) → ∃ zs : List Int, ys = zs.map V.int := by
        intro ys
        induction ys with
        | nil => exact fun _ => ⟨[], rfl⟩
        | cons y ys ih =>
          intro h
          obtain ⟨x, rfl⟩ := h y List.mem_cons_self
          obtain ⟨zs, rfl⟩ := ih fun u m => h u (List.mem_cons_of_mem _ m)
          exact ⟨x :: zs, rfl⟩
      obtain ⟨zs, rfl⟩ := un ys all
      have p2 := y1.map (fun v => match v with | V.int x => x | _ => 0)
      simp only [List.map_map, Function.comp_def, List.map_id'] at p2
      exact ⟨zs, p2, y2.ints⟩
    obtain ⟨zs, z1, z2⟩ := hst
    have se : srtI zs = srtI ns := srtI_only ((srtI_perm zs).trans z1) (srtI_sorted zs)
    rw [List.length_map] at hz lo
    refine sort_tail (s := s1) (ys := (srtI zs).map V.int) J SrtO.swo_int (by rw [lo]; exact hz) (fun h a h2 => SrtO.ints_sortable z2 h2) (fun out' o1 o2 => ?_) (by rw [List.length_map, (srtI_perm zs).length_eq, z1.length_eq]; exact hz) ?_ fun v s' e => ⟨_, rfl, e⟩
    · obtain ⟨k1, k2, k3⟩ := SrtO.ints_out z2 o1 o2
      rw [← srtI_only k2 k3]
      exact vals_of_ints k1
    · rw [se]
      exact q
def rLenSet (X : Cx) : List V → Hp → VK → Prop := fun vs H Q => ∃ (a : Addr) (ls : List Key), vs = [V.ref a] ∧ H a = some (SetGO X.prog X.w a ls) ∧ Q (.int (ls.length : Nat)) H
theorem cr_lenSet : CallR X (.builtin "len") (rLenSet X) := by
  intro pins s σ H vs us Q I rel hh
  obtain ⟨a, ls, rfl, ha, q⟩ := hh
  obtain ⟨⟨o, es, ep, t, ho, hx, hd, pr, nd, hb, hf, ri, le⟩, _, _⟩ := I.hok a _ ha
  rw [Vals.ref1 rel]
  have len : es.size = ls.length := by rw [← Array.length_toList]; exact Paired.length pr
  exact call_len_set ho hx hd hf (by unfold scanBound at hb; omega) ⟨.int ls.length, H, I.tok _, ⟨_, by rw [len]⟩, q⟩
end
end FW

set_option maxHeartbeats 4000000
namespace FW
open PySem L2

/-! ### sorted(set(xs)), len(set(xs)): the rules -/
def dd {α : Type} [DecidableEq α] : List α → List α
  | [] => []
  | x :: xs => if x ∈ dd xs then dd xs else x :: dd xs
theorem dd_mem {α : Type} [DecidableEq α] {x : α} : ∀ {xs : List α}, x ∈ dd xs ↔ x ∈ xs
  | [] => by simp [dd]
  | y :: ys => by
    unfold dd
    split
    · rename_i h
      rw [dd_mem, List.mem_cons]
      exact ⟨.inr, fun z => z.elim (fun e => by rw [e]; exact dd_mem.mp h) id⟩
    · rw [List.mem_cons, List.mem_cons, dd_mem]
theorem dd_nodup {α : Type} [DecidableEq α] : ∀ (xs : List α), (dd xs).Nodup
  | [] => List.Pairwise.nil
  | y :: ys => by
    unfold dd
    split
    · exact dd_nodup ys
    · rename_i h
      exact List.nodup_cons.mpr ⟨h, dd_nodup ys⟩
theorem nodup_perm {α : Type} [DecidableEq α] {a b : List α} (ha : a.Nodup) (hb : b.Nodup) (h : ∀ x, x ∈ a ↔ x ∈ b) : a.Perm b := (List.perm_ext_iff_of_nodup ha hb).mpr h
def setD (ds : List D) : Option (List Str ⊕ List Int) := if ds.length ≤ 4000 then (match strsD ds with
  | some xs => some (.inl xs)
  | none => match intsD ds with
    | some ns => some (.inr ns)
    | none => none) else none
def fSortSet (m : M D) : M Ob := xbnd m fun d _ st => match rdlOf d st with
  | some ds => match setD ds with
    | some (.inl xs) => some (.ok (.lst ((srtS (dd xs)).map D.str)), st)
    | some (.inr ns) => some (.ok (.lst ((srtI (dd ns)).map D.int)), st)
    | none => none
  | none => none
def xLenSet (m : M D) : M D := xbnd m fun d _ st => match rdlOf d st with
  | some ds => match setD ds with
    | some (.inl xs) => some (.ok (.int ((dd xs).length : Nat)), st)
    | some (.inr ns) => some (.ok (.int ((dd ns).length : Nat)), st)
    | none => none
  | none => none
theorem setD_eq {ds : List D} {z : List Str ⊕ List Int} (h : setD ds = some z) : ds.length ≤ 4000 ∧ ((∃ xs, z = .inl xs ∧ ds = xs.map D.str) ∨ ∃ ns, z = .inr ns ∧ ds = ns.map D.int) := by
  unfold setD at h
  split at h
  · rename_i hl
    refine ⟨hl, ?_⟩
    split at h
    · rename_i xs e
      cases h
      exact .inl ⟨xs, rfl, strsD_eq e⟩
    · split at h
      · rename_i ns e
        cases h
        exact .inr ⟨ns, rfl, intsD_eq e⟩
      · cases h
  · cases h
theorem keys_of {K : PySem.W.Frag} {r : Ad} {H : Hp} {ds : List D} {vs : List V} {z : List Str ⊕ List Int} (e : (∃ xs, z = .inl xs ∧ ds = xs.map D.str) ∨ ∃ ns, z = .inr ns ∧ ds = ns.map D.int) (t : RDs K r H ds vs) :
    ∃ ks : List Key, vs = ks.map kV ∧ ((∃ xs, z = .inl xs ∧ ks = xs.map Sum.inr) ∨ ∃ ns, z = .inr ns ∧ ks = ns.map Sum.inl) := by
  rcases e with ⟨xs, rfl, rfl⟩ | ⟨ns, rfl, rfl⟩
  · exact ⟨xs.map Sum.inr, by rw [t.strs, List.map_map]; rfl, .inl ⟨xs, rfl, rfl⟩⟩
  · exact ⟨ns.map Sum.inl, by rw [t.ints, List.map_map]; rfl, .inr ⟨ns, rfl, rfl⟩⟩
theorem inr_list {xs : List Str} {ls : List Key} (h : ∀ k, k ∈ ls ↔ k ∈ xs.map Sum.inr) : ∃ ys : List Str, ls = ys.map Sum.inr := by
  have all : ∀ k ∈ ls, ∃ x, k = Sum.inr x := fun k m => by
    obtain ⟨x, _, e⟩ := List.mem_map.mp ((h k).mp m)
    exact ⟨x, e.symm⟩
  clear h
  induction ls with
  | nil => exact ⟨[], rfl⟩
  | cons k ls ih =>
    obtain ⟨x, rfl⟩ := all k List.mem_cons_self
    obtain ⟨ys, rfl⟩ := ih fun j m => all j (List.mem_cons_of_mem _ m)
    exact ⟨x :: ys, rfl⟩
theorem inl_list {xs : List Int} {ls : List Key} (h : ∀ k, k ∈ ls ↔ k ∈ xs.map Sum.inl) : ∃ ys : List Int, ls = ys.map Sum.inl := by
  have all : ∀ k ∈ ls, ∃ x, k = Sum.inl x := fun k m => by
    obtain ⟨x, _, e⟩ := List.mem_map.mp ((h k).mp m)
    exact ⟨x, e.symm⟩
  clear h
  induction ls with
  | nil => exact ⟨[], rfl⟩
  | cons k ls ih =>
    obtain ⟨x, rfl⟩ := all k List.mem_cons_self
    obtain ⟨ys, rfl⟩ := ih fun j m => all j (List.mem_cons_of_mem _ m)
    exact ⟨x :: ys, rfl⟩
theorem inr_perm {xs ys : List Str} (nd : (ys.map (Sum.inr (α := Int))).Nodup) (h : ∀ k, k ∈ ys.map (Sum.inr (α := Int)) ↔ k ∈ xs.map Sum.inr) : ys.Perm (dd xs) := by
  refine nodup_perm ?_ (dd_nodup xs) fun x => ?_
  · exact (List.pairwise_map.mp nd).imp fun h e => h (by rw [e])
  · rw [dd_mem]
    have := h (Sum.inr x)
    simpa using this
theorem inl_perm {xs ys : List Int} (nd : (ys.map (Sum.inl (β := Str))).Nodup) (h : ∀ k, k ∈ ys.map (Sum.inl (β := Str)) ↔ k ∈ xs.map Sum.inl) : ys.Perm (dd xs) := by
  refine nodup_perm ?_ (dd_nodup xs) fun x => ?_
  · exact (List.pairwise_map.mp nd).imp fun h e => h (by rw [e])
  · rw [dd_mem]
    have := h (Sum.inl x)
    simpa using this
theorem srtS_congr {a b : List Str} (h : a.Perm b) : srtS a = srtS b := srtS_only ((srtS_perm a).trans h) (srtS_sorted a)
theorem srtI_congr {a b : List Int} (h : a.Perm b) : srtI a = srtI b := srtI_only ((srtI_perm a).trans h) (srtI_sorted a)
section
variable {X : Cx} {EW : EWt}
theorem pe_setOf {a : Expr} {t : TE} {p pos : Pos} (hc : X.calm = true) (hg : Gl X "set") (hm : X.mg "set" = none) (ha : PE X a t) (na : starEach [a] X.env = (false, eval a X.env) :: starEach [] X.env := by rfl) : PE X (.Call (.Name "set" p) [a] [] pos) (fun σ H Q => t σ H fun v H1 => rSetL X [v] H1 Q) := by
  have h := pe_callTy (pos := pos) (p := p) (cr_setL hc) hg hm (by first | exact boot_set | exact PyProof.Rows.boot_set) (pa_cons ha pa_nil na) (by decide) (by decide) na (by rfl)
  exact h
theorem f_sortSet {a : Expr} {p p2 q pos : Pos} {m : M D} (hc : X.calm = true) (hg : Gl X "sorted") (hm : X.mg "sorted" = none) (hg2 : Gl X "set") (hm2 : X.mg "set" = none) (ha : E X EW a m) (na : starEach [a] X.env = (false, eval a X.env) :: starEach [] X.env := by rfl)
    (nb : starEach [.Call (.Name "set" p2) [a] [] q] X.env = (false, eval (.Call (.Name "set" p2) [a] [] q) X.env) :: starEach [] X.env := by rfl) :
    EF X EW (.Call (.Name "sorted" p) [.Call (.Name "set" p2) [a] [] q] [] pos) (fSortSet m) := by
  refine PE.weak (pe_callB (cr_sortSet hc) hg hm PyProof.Rows.boot_sorted (pa_cons (pe_setOf hc hg2 hm2 ha na) pa_nil nb) (by decide) (by decide) nb (by rfl)) ?_
  rintro σ H Q ⟨r, e, st, out, st', S, hE, h, P⟩
  refine bnd_stepO S hE h P fun r1 H1 v d st1 S1 x1 hE1 hd h1 => ?_
  dsimp only at h1
  split at h1
  · rename_i ds e1
    obtain ⟨a', ws, rfl, s, t⟩ := rdlOf_ok S1 hd e1
    have fin : ∀ z, setD ds = some z → (∀ (ls : List Key) (p1 : Addr), H1 p1 = none → (∀ k, k ∈ ls ↔ k ∈ (match z with | .inl xs => xs.map Sum.inr | .inr ns => ns.map Sum.inl)) → ls.Nodup → ls.length ≤ sizeLine → rSortSet X [.ref p1] (upd H1 p1 (SetGO X.prog X.w p1 ls)) Q) → rSetL X [.ref a'] H1 fun v' H2 => rSortSet X [v'] H2 Q := by
      intro z ez hz
      obtain ⟨hl, kind⟩ := setD_eq ez
      obtain ⟨ks, rfl, kk⟩ := keys_of kind t
      have kl : ks.length ≤ 4000 := by rw [t.length, List.length_map] at hl; exact hl
      refine ⟨a', ks, rfl, s, by unfold scanBound; omega, fun p1 ls hp mem nd len => hz ls p1 hp ?_ nd (by rw [sizeLine_eq]; omega)⟩
      rcases kk with ⟨xs, rfl, rfl⟩ | ⟨ns, rfl, rfl⟩
      · exact mem
      · exact mem
    split at h1
    · rename_i xs ez
      cases h1
      refine fin _ ez fun ls p1 hp mem nd len => ?_
      obtain ⟨ys, rfl⟩ := inr_list mem
      have pm := inr_perm nd mem
      refine ⟨p1, _, rfl, upd_same, len, .inl ⟨ys, rfl, fun p3 hp3 => ?_⟩⟩
      rw [srtS_congr pm]
      obtain ⟨S2, x2⟩ := S1.side (o := SetGO X.prog X.w p1 (ys.map Sum.inr)) hp
      exact P.lay S S2 (x1.trans' S S1 x2) hp3 ⟨_, rfl, RDs.ofStrs _⟩
    · rename_i ns ez
      cases h1
      refine fin _ ez fun ls p1 hp mem nd len => ?_
      obtain ⟨ys, rfl⟩ := inl_list mem
      have pm := inl_perm nd mem
      refine ⟨p1, _, rfl, upd_same, len, .inr ⟨ys, rfl, fun p3 hp3 => ?_⟩⟩
      rw [srtI_congr pm]
      obtain ⟨S2, x2⟩ := S1.side (o := SetGO X.prog X.w p1 (ys.map Sum.inl)) hp
      exact P.lay S S2 (x1.trans' S S1 x2) hp3 ⟨_, rfl, RDs.ofInts _⟩
    · cases h1
  · cases h1
theorem e_lenSet {a : Expr} {p p2 q pos : Pos} {m : M D} (hc : X.calm = true) (hg : Gl X "len") (hm : X.mg "len" = none) (hg2 : Gl X "set") (hm2 : X.mg "set" = none) (ha : E X EW a m) (na : starEach [a] X.env = (false, eval a X.env) :: starEach [] X.env := by rfl)
    (nb : starEach [.Call (.Name "set" p2) [a] [] q] X.env = (false, eval (.Call (.Name "set" p2) [a] [] q) X.env) :: starEach [] X.env := by rfl) :
    E X EW (.Call (.Name "len" p) [.Call (.Name "set" p2) [a] [] q] [] pos) (xLenSet m) := by
  refine PE.weak (pe_callB cr_lenSet hg hm (by first | exact boot_len | exact PyProof.Rows.boot_len) (pa_cons (pe_setOf hc hg2 hm2 ha na) pa_nil nb) (by decide) (by decide) nb (by rfl)) ?_
  rintro σ H Q ⟨r, e, st, out, st', S, hE, h, P⟩
  refine bnd_step S hE h P fun r1 H1 v d st1 S1 x1 hE1 hd h1 P1 => ?_
  dsimp only at h1
  split at h1
  · rename_i ds e1
    obtain ⟨a', ws, rfl, s, t⟩ := rdlOf_ok S1 hd e1
    have fin : ∀ z, setD ds = some z → (∀ (ls : List Key) (p1 : Addr), H1 p1 = none → (∀ k, k ∈ ls ↔ k ∈ (match z with | .inl xs => xs.map Sum.inr | .inr ns => ns.map Sum.inl)) → ls.Nodup → ls.length ≤ sizeLine → rLenSet X [.ref p1] (upd H1 p1 (SetGO X.prog X.w p1 ls)) Q) → rSetL X [.ref a'] H1 fun v' H2 => rLenSet X [v'] H2 Q := by
      intro z ez hz
      obtain ⟨hl, kind⟩ := setD_eq ez
      obtain ⟨ks, rfl, kk⟩ := keys_of kind t
      have kl : ks.length ≤ 4000 := by rw [t.length, List.length_map] at hl; exact hl
      refine ⟨a', ks, rfl, s, by unfold scanBound; omega, fun p1 ls hp mem nd len => hz ls p1 hp ?_ nd (by rw [sizeLine_eq]; omega)⟩
      rcases kk with ⟨xs, rfl, rfl⟩ | ⟨ns, rfl, rfl⟩
      · exact mem
      · exact mem
    split at h1
    · rename_i xs ez
      cases h1
      refine fin _ ez fun ls p1 hp mem nd len => ?_
      obtain ⟨ys, rfl⟩ := inr_list mem
      have pm := inr_perm nd mem
      obtain ⟨S2, x2⟩ := S1.side (o := SetGO X.prog X.w p1 (ys.map Sum.inr)) hp
      refine ⟨p1, _, rfl, upd_same, ?_⟩
      rw [List.length_map, pm.length_eq]
      exact P1 r1 _ _ S2 x2 (by simp only [RD])
    · rename_i ns ez
      cases h1
      refine fin _ ez fun ls p1 hp mem nd len => ?_
      obtain ⟨ys, rfl⟩ := inl_list mem
      have pm := inl_perm nd mem
      obtain ⟨S2, x2⟩ := S1.side (o := SetGO X.prog X.w p1 (ys.map Sum.inl)) hp
      refine ⟨p1, _, rfl, upd_same, ?_⟩
      rw [List.length_map, pm.length_eq]
      exact P1 r1 _ _ S2 x2 (by simp only [RD])
    · cases h1
  · cases h1
end
end FW

set_option maxHeartbeats 4000000
namespace FW
open PySem PySem.Spec PyProof.Rows RZ

/-! ### list(zip(t, u)) of two tuples, at the library's level -/
section
variable {prog : Program} {w : World} {A : Around} {E : Value → Shared → Prop} {s : Shared}
theorem zipT_held_item {z TI TO T i1 i2 l1 l2 : Addr} {f : Bool} {oT : Obj} {k1 k2 : Nat} {xs ys : Array Value} {x y : Value} {Q : Value → Shared → Prop} (D : ZipApart z TI TO i1 i2 l1 l2)
    (hz : IsZipHeld s.heap z TI TO T f) (hT : s.heap.get? T = some oT) (hTI : IsPair s.heap TI (.ref i1) (.ref i2))
    (h1 : s.heap.IsTupleIter i1 l1 k1) (h2 : s.heap.IsTupleIter i2 l2 k2) (hl1 : s.heap.IsTuple l1 xs) (hl2 : s.heap.IsTuple l2 ys) (hx : xs[k1]? = some x) (hy : ys[k2]? = some y)
    (hQ : ∀ h', IsZipHeld h' z TI TO T true → h'.IsTupleIter i1 l1 (k1 + 1) → h'.IsTupleIter i2 l2 (k2 + 1) → IsPair h' s.heap.objs.size x y → h'.objs.size = s.heap.objs.size + 1 →
      (∀ c o, c ≠ z → c ≠ i1 → c ≠ i2 → s.heap.get? c = some o → h'.get? c = some o) → Q (.ref s.heap.objs.size) { s with heap := h' }) :
    wpAny (model prog w) A (Builtin.«zip.__next__» ⟨[.ref z], []⟩) (fun fin s' => ∃ v, fin = .done (.ret v) ∧ Q v s') E s := by
  show wpAny _ _ (field (.ref z) 2 >>= _) _ _ _
  refine wpAny_bind (wpAny_field hz rfl (x := .bool false) rfl ?_)
  show wpAny _ _ (field (.ref z) 3 >>= _) _ _ _
  refine wpAny_bind (wpAny_field hz rfl (x := .ref TI) rfl ?_)
  refine wpAny_bind (wpAny_seqItems hTI rfl ?_)
  show wpAny _ _ (Builtin.SmallTypes.ownedTupleIsFree (.ref z) >>= _) _ _ _
  refine wpAny_bind (wpAny_tupleHeld_zip hz hT fun h₁ hz₁ hs₁ => ?_)
  simp only [Bool.false_eq_true, if_false]
  refine wpAny_bind ?_
  rw [← Array.forIn_toList]
  simp only [List.forIn_cons, List.forIn_nil]
  refine wpAny_bind (wpAny_bind (wpAny_holding ?_))
  show wpAny _ _ (Builtin.SmallTypes.nextOf (.ref i1) >>= _) _ _ _
  refine wpAny_bind (nextOf_tuple_item (s := { s with heap := h₁ }) (h1.extBut hs₁.extBut D.i1z) (hl1.extBut hs₁.extBut D.l1z) hx fun h₂ h1₂ hs₂ => wpAny_pure ?_)
  refine wpAny_pure ?_
  refine wpAny_bind (wpAny_bind (wpAny_holding ?_))
  show wpAny _ _ (Builtin.SmallTypes.nextOf (.ref i2) >>= _) _ _ _
  refine wpAny_bind (nextOf_tuple_item (s := { s with heap := h₂ }) ((h2.extBut hs₁.extBut D.i2z).extBut hs₂.extBut D.i12.symm) ((hl2.extBut hs₁.extBut D.l2z).extBut hs₂.extBut D.l2i1) hy fun h₃ h2₃ hs₃ => wpAny_pure ?_)
  refine wpAny_pure (wpAny_pure ?_)
  show wpAny _ _ (newTuple [x, y] >>= _) _ _ _
  refine wpAny_bind (wpAny_newTuple ?_)
  have hsz : h₃.objs.size = s.heap.objs.size := by rw [hs₃.1, hs₂.1, hs₁.1]
  have hz₃ : IsZipHeld h₃ z TI TO T true := hs₃.extBut _ _ D.i2z.symm (hs₂.extBut _ _ D.i1z.symm hz₁)
  have hk : ∀ c o, c ≠ z → c ≠ i1 → c ≠ i2 → s.heap.get? c = some o → h₃.get? c = some o := fun c o c1 c2 c3 e => hs₃.extBut _ _ c3 (hs₂.extBut _ _ c2 (hs₁.extBut _ _ c1 e))
  have h1₃ : h₃.IsTupleIter i1 l1 (k1 + 1) := h1₂.extBut hs₃.extBut D.i12
  refine wpAny_pure ⟨_, rfl, ?_⟩
  show Q (.ref h₃.objs.size) _
  have hp : IsPair (h₃.push { cls := .type "tuple", data := .seq #[x, y] }) h₃.objs.size x y := Heap.get?_push_size _ rfl
  have hz4 : (h₃.push { cls := .type "tuple", data := .seq #[x, y] }).objs.size = h₃.objs.size + 1 := Heap.size_push ..
  rw [hsz] at hp hz4 ⊢
  exact hQ _ (Heap.get?_push_of_some _ hz₃) (h1₃.at fun o e => Heap.get?_push_of_some _ e) (h2₃.at fun o e => Heap.get?_push_of_some _ e) hp hz4 fun c o c1 c2 c3 e => Heap.get?_push_of_some _ (hk c o c1 c2 c3 e)
theorem zipT_held_end {z TI TO T i1 i2 l1 l2 : Addr} {f : Bool} {oT : Obj} {k1 k2 : Nat} {xs ys : Array Value} {Q : Fin → Shared → Prop} (hh : A.handled = none) (D : ZipApart z TI TO i1 i2 l1 l2)
    (hz : IsZipHeld s.heap z TI TO T f) (hT : s.heap.get? T = some oT) (hTI : IsPair s.heap TI (.ref i1) (.ref i2))
    (h1 : s.heap.IsTupleIter i1 l1 k1) (h2 : s.heap.IsTupleIter i2 l2 k2) (hl1 : s.heap.IsTuple l1 xs) (hl2 : s.heap.IsTuple l2 ys) (hend : xs[k1]? = none ∨ ys[k2]? = none)
    (hE : ∀ h' e, (∀ c o, c ≠ z → c ≠ i1 → c ≠ i2 → s.heap.get? c = some o → h'.get? c = some o) → (∃ o, h'.get? e = some o ∧ o.cls = .type "StopIteration") → E (.ref e) { s with heap := h' }) :
    wpAny (model prog w) A (Builtin.«zip.__next__» ⟨[.ref z], []⟩) Q E s := by
  show wpAny _ _ (field (.ref z) 2 >>= _) _ _ _
  refine wpAny_bind (wpAny_field hz rfl (x := .bool false) rfl ?_)
  show wpAny _ _ (field (.ref z) 3 >>= _) _ _ _
  refine wpAny_bind (wpAny_field hz rfl (x := .ref TI) rfl ?_)
  refine wpAny_bind (wpAny_seqItems hTI rfl ?_)
  show wpAny _ _ (Builtin.SmallTypes.ownedTupleIsFree (.ref z) >>= _) _ _ _
  refine wpAny_bind (wpAny_tupleHeld_zip hz hT fun h₁ hz₁ hs₁ => ?_)
  simp only [Bool.false_eq_true, if_false]
  refine wpAny_bind ?_
  rw [← Array.forIn_toList]
  simp only [List.forIn_cons, List.forIn_nil]
  refine wpAny_bind (wpAny_bind (wpAny_holding ?_))
  show wpAny _ _ (Builtin.SmallTypes.nextOf (.ref i1) >>= _) _ _ _
  cases hx : xs[k1]? with
  | none =>
    refine wpAny_bind (nextOf_tuple_end (s := { s with heap := h₁ }) hh (h1.extBut hs₁.extBut D.i1z) (hl1.extBut hs₁.extBut D.l1z) hx fun h₂ e hs₂ he => ?_)
    exact hE h₂ e (fun c o c1 c2 _ x => hs₂ _ _ c2 (hs₁.extBut _ _ c1 x)) he
  | some x =>
    have hy : ys[k2]? = none := by rcases hend with h | h; rw [hx] at h; cases h; exact h
    refine wpAny_bind (nextOf_tuple_item (s := { s with heap := h₁ }) (h1.extBut hs₁.extBut D.i1z) (hl1.extBut hs₁.extBut D.l1z) hx fun h₂ h1₂ hs₂ => wpAny_pure ?_)
    refine wpAny_pure ?_
    refine wpAny_bind (wpAny_bind (wpAny_holding ?_))
    show wpAny _ _ (Builtin.SmallTypes.nextOf (.ref i2) >>= _) _ _ _
    refine wpAny_bind (nextOf_tuple_end (s := { s with heap := h₂ }) hh ((h2.extBut hs₁.extBut D.i2z).extBut hs₂.extBut D.i12.symm) ((hl2.extBut hs₁.extBut D.l2z).extBut hs₂.extBut D.l2i1) hy fun h₃ e hs₃ he => ?_)
    exact hE h₃ e (fun c o c1 c2 c3 x => hs₃ _ _ c3 (hs₂.extBut _ _ c2 (hs₁.extBut _ _ c1 x))) he
theorem next_zipT_held {z TI TO T i1 i2 l1 l2 : Addr} {f : Bool} {oT : Obj} {k1 k2 : Nat} {xs ys : Array Value} {x y : Value} {Q : Option Value → Shared → Prop} (D : ZipApart z TI TO i1 i2 l1 l2)
    (hz : IsZipHeld s.heap z TI TO T f) (hT : s.heap.get? T = some oT) (hTI : IsPair s.heap TI (.ref i1) (.ref i2))
    (h1 : s.heap.IsTupleIter i1 l1 k1) (h2 : s.heap.IsTupleIter i2 l2 k2) (hl1 : s.heap.IsTuple l1 xs) (hl2 : s.heap.IsTuple l2 ys) (hx : xs[k1]? = some x) (hy : ys[k2]? = some y)
    (hQ : ∀ h', IsZipHeld h' z TI TO T true → h'.IsTupleIter i1 l1 (k1 + 1) → h'.IsTupleIter i2 l2 (k2 + 1) → IsPair h' s.heap.objs.size x y → h'.objs.size = s.heap.objs.size + 1 →
      (∀ c o, c ≠ z → c ≠ i1 → c ≠ i2 → s.heap.get? c = some o → h'.get? c = some o) → Q (some (.ref s.heap.objs.size)) { s with heap := h' }) :
    wpAny (model prog w) A (pyNext (.ref z)) Q E s := by
  have hTy : s.TypeIs (.ref z) "zip" := ⟨_, hz, rfl⟩
  unfold pyNext
  exact wpAny_bind (wpAny_attempt (wpAny_callSpecial?_slot (name := Str.ofString "__next__") hTy F.slot_zip_next
    (wpAny_call_entry F.slot_zip_next hTy F.entry_zip_next
      (zipT_held_item D hz hT hTI h1 h2 hl1 hl2 hx hy fun h' a1 a3 a4 a5 a6 a7 => wpAny_pure (hQ h' a1 a3 a4 a5 a6 a7)) (F.args_zip_next_1 _))))
theorem next_zipT_heldEnd {z TI TO T i1 i2 l1 l2 : Addr} {f : Bool} {oT : Obj} {k1 k2 : Nat} {xs ys : Array Value} {Q : Option Value → Shared → Prop} (hh : A.handled = none) (D : ZipApart z TI TO i1 i2 l1 l2)
    (hz : IsZipHeld s.heap z TI TO T f) (hT : s.heap.get? T = some oT) (hTI : IsPair s.heap TI (.ref i1) (.ref i2))
    (h1 : s.heap.IsTupleIter i1 l1 k1) (h2 : s.heap.IsTupleIter i2 l2 k2) (hl1 : s.heap.IsTuple l1 xs) (hl2 : s.heap.IsTuple l2 ys) (hend : xs[k1]? = none ∨ ys[k2]? = none)
    (hQ : ∀ h', (∀ c o, c ≠ z → c ≠ i1 → c ≠ i2 → s.heap.get? c = some o → h'.get? c = some o) → Q none { s with heap := h' }) : wpAny (model prog w) A (pyNext (.ref z)) Q E s := by
  have hTy : s.TypeIs (.ref z) "zip" := ⟨_, hz, rfl⟩
  unfold pyNext
  refine wpAny_bind (wpAny_attempt (wpAny_callSpecial?_slot (name := Str.ofString "__next__") hTy F.slot_zip_next
    (wpAny_call_entry F.slot_zip_next hTy F.entry_zip_next (zipT_held_end hh D hz hT hTI h1 h2 hl1 hl2 hend fun h' e hk he => ?_) (F.args_zip_next_1 _))))
  obtain ⟨o, ho, hc⟩ := he
  refine wpAny_bind (wpAny_isInstance (T := "StopIteration") (b := true) ⟨o, ho, hc⟩ isSubtype_stop ?_)
  exact wpAny_pure (hQ _ hk)

/-- the zip before its turn i -/
structure ZSt (h : Heap) (z TI TO i1 i2 l1 l2 : Addr) (xs ys : Array Value) (S : Addr) (i : Nat) : Prop where
  ti : IsPair h TI (.ref i1) (.ref i2)
  it1 : h.IsTupleIter i1 l1 i
  it2 : h.IsTupleIter i2 l2 i
  t1 : h.IsTuple l1 xs
  t2 : h.IsTuple l2 ys
  zz : (IsZip h z TI TO .none ∧ ∃ a b, IsPair h TO a b) ∨ ∃ T f oT, IsZipHeld h z TI TO T f ∧ h.get? T = some oT ∧ T ≠ z ∧ T ≠ i1 ∧ T ≠ i2 ∧ T ≠ S
/-- the pairs made so far -/
def ZAcc (h : Heap) (n0 : Nat) (xs ys : Array Value) (acc : Array Value) (i : Nat) : Prop := ∃ ts : List Addr, acc.toList = ts.map Value.ref ∧ ts.length = i ∧ ts.Nodup ∧ ∀ (j : Nat) (T : Addr), ts[j]? = some T → n0 ≤ T ∧ T < h.objs.size ∧ ∃ x y, xs[j]? = some x ∧ ys[j]? = some y ∧ IsPair h T x y
theorem ZSt.keep {h h' : Heap} {z TI TO i1 i2 l1 l2 S : Addr} {xs ys : Array Value} {i : Nat} (st : ZSt h z TI TO i1 i2 l1 l2 xs ys S i) (D : ZipApart z TI TO i1 i2 l1 l2) (hS : ∀ c ∈ [z, TI, TO, i1, i2, l1, l2], c ≠ S) (k : ∀ c o, c ≠ S → h.get? c = some o → h'.get? c = some o) : ZSt h' z TI TO i1 i2 l1 l2 xs ys S i := by
  have q : ∀ c ∈ [z, TI, TO, i1, i2, l1, l2], ∀ o, h.get? c = some o → h'.get? c = some o := fun c m o e => k c o (hS c m) e
  refine ⟨q TI (by simp) _ st.ti, st.it1.at fun o e => q i1 (by simp) o e, st.it2.at fun o e => q i2 (by simp) o e, st.t1.at fun o e => q l1 (by simp) o e, st.t2.at fun o e => q l2 (by simp) o e, ?_⟩
  rcases st.zz with ⟨hz, a, b, ho⟩ | ⟨T, f, oT, hz, hT, r1, r2, r3, r4⟩
  · exact .inl ⟨q z (by simp) _ hz, a, b, q TO (by simp) _ ho⟩
  · exact .inr ⟨T, f, oT, q z (by simp) _ hz, k T oT r4 hT, r1, r2, r3, r4⟩
theorem ZSt.next {z TI TO i1 i2 l1 l2 S : Addr} {xs ys : Array Value} {i : Nat} {x y : Value} {Q : Option Value → Shared → Prop} (st : ZSt s.heap z TI TO i1 i2 l1 l2 xs ys S i) (D : ZipApart z TI TO i1 i2 l1 l2) (hSl : S < s.heap.objs.size) (hx : xs[i]? = some x) (hy : ys[i]? = some y)
    (hQ : ∀ h', ZSt h' z TI TO i1 i2 l1 l2 xs ys S (i + 1) → IsPair h' s.heap.objs.size x y → h'.objs.size = s.heap.objs.size + 1 → (∀ c o, c ≠ z → c ≠ TO → c ≠ i1 → c ≠ i2 → s.heap.get? c = some o → h'.get? c = some o) → Q (some (.ref s.heap.objs.size)) { s with heap := h' }) :
    wpAny (model prog w) A (pyNext (.ref z)) Q E s := by
  have lt : ∀ {c o}, s.heap.get? c = some o → s.heap.objs.size ≠ c := fun e => Nat.ne_of_gt (Heap.lt_size e)
  have n1 : s.heap.objs.size ≠ i1 := let ⟨_, e, _⟩ := st.it1; lt e
  have n2 : s.heap.objs.size ≠ i2 := let ⟨_, e, _⟩ := st.it2; lt e
  rcases st.zz with ⟨hz, a, b, hTO⟩ | ⟨T, f, oT, hz, hT, r1, r2, r3, r4⟩
  · refine pyNext_zipT_item D hz st.ti hTO st.it1 st.it2 st.t1 st.t2 hx hy fun h' a1 a2 a3 a4 a5 a6 hk => ?_
    exact hQ h' ⟨hk _ _ D.TIz D.TITO D.TIi1 D.TIi2 st.ti, a3, a4, st.t1.at fun o e => hk _ o D.l1z D.l1TO D.l1i1 D.l1i2 e, st.t2.at fun o e => hk _ o D.l2z D.l2TO D.l2i1 D.l2i2 e,
      .inr ⟨s.heap.objs.size, false, _, a1, a5, lt hz, n1, n2, Nat.ne_of_gt hSl⟩⟩ a5 a6 hk
  · refine next_zipT_held D hz hT st.ti st.it1 st.it2 st.t1 st.t2 hx hy fun h' a1 a3 a4 a5 a6 hk => ?_
    exact hQ h' ⟨hk _ _ D.TIz D.TIi1 D.TIi2 st.ti, a3, a4, st.t1.at fun o e => hk _ o D.l1z D.l1i1 D.l1i2 e, st.t2.at fun o e => hk _ o D.l2z D.l2i1 D.l2i2 e,
      .inr ⟨T, true, oT, a1, hk _ _ r1 r2 r3 hT, r1, r2, r3, r4⟩⟩ a5 a6 fun c o c1 _ c3 c4 e => hk c o c1 c3 c4 e
theorem ZSt.stop {z TI TO i1 i2 l1 l2 S : Addr} {xs ys : Array Value} {i : Nat} {Q : Option Value → Shared → Prop} (hh : A.handled = none) (st : ZSt s.heap z TI TO i1 i2 l1 l2 xs ys S i) (D : ZipApart z TI TO i1 i2 l1 l2) (hend : xs[i]? = none ∨ ys[i]? = none)
    (hQ : ∀ h', (∀ c o, c ≠ z → c ≠ TO → c ≠ i1 → c ≠ i2 → s.heap.get? c = some o → h'.get? c = some o) → Q none { s with heap := h' }) :
    wpAny (model prog w) A (pyNext (.ref z)) Q E s := by
  rcases st.zz with ⟨hz, a, b, hTO⟩ | ⟨T, f, oT, hz, hT, r1, r2, r3, r4⟩
  · exact pyNext_zipT_end hh D hz st.ti hTO st.it1 st.it2 st.t1 st.t2 hend hQ
  · exact next_zipT_heldEnd hh D hz hT st.ti st.it1 st.it2 st.t1 st.t2 hend fun h' hk => hQ h' fun c o c1 _ c3 c4 e => hk c o c1 c3 c4 e
end
end FW

set_option maxHeartbeats 4000000
namespace FW
open PySem PySem.Spec PyProof.Rows RZ

theorem zip_no_len : typeLookup (.type "zip") "__len__" = pure none := by rw [typeLookup_type, builtinLookup_eq_fast]; kernel_rfl
theorem zip_no_hint : typeLookup (.type "zip") "__length_hint__" = pure none := by rw [typeLookup_type, builtinLookup_eq_fast]; kernel_rfl
section
variable {prog : Program} {w : World} {A : Around} {E : Value → Shared → Prop} {s : Shared} {R : Result → Shared → Prop}
theorem ZAcc.keep {h h' : Heap} {n0 : Nat} {xs ys acc : Array Value} {i : Nat} (a : ZAcc h n0 xs ys acc i) (hz : h.objs.size ≤ h'.objs.size) (k : ∀ c o, n0 ≤ c → h.get? c = some o → h'.get? c = some o) : ZAcc h' n0 xs ys acc i := by
  obtain ⟨ts, e, l, nd, f⟩ := a
  refine ⟨ts, e, l, nd, fun j T hj => ?_⟩
  obtain ⟨q1, q2, x, y, hx, hy, hp⟩ := f j T hj
  exact ⟨q1, Nat.lt_of_lt_of_le q2 hz, x, y, hx, hy, k T _ q1 hp⟩
theorem ZAcc.push {h : Heap} {n0 : Nat} {xs ys acc : Array Value} {i T : Nat} {x y : Value} (a : ZAcc h n0 xs ys acc i) (h' : Heap) (hz : h'.objs.size = h.objs.size + 1) (hT : T = h.objs.size) (hn : n0 ≤ T) (hx : xs[i]? = some x) (hy : ys[i]? = some y) (hp : IsPair h' T x y)
    (k : ∀ c o, n0 ≤ c → h.get? c = some o → h'.get? c = some o) : ZAcc h' n0 xs ys (acc.push (.ref T)) (i + 1) := by
  obtain ⟨ts, e, l, nd, f⟩ := a
  refine ⟨ts ++ [T], by rw [Array.toList_push, e, List.map_append]; rfl, by rw [List.length_append, l]; rfl, ?_, fun j U hj => ?_⟩
  · refine List.nodup_append.mpr ⟨nd, by simp, fun a ha b hb => ?_⟩
    have eb : b = T := by simpa using hb
    obtain ⟨j, hj⟩ := List.getElem?_of_mem ha
    have := (f j a hj).2.1
    rw [eb, hT]
    exact Nat.ne_of_lt this
  · by_cases hji : j < ts.length
    · rw [List.getElem?_append_left hji] at hj
      obtain ⟨q1, q2, x, y, hx, hy, hp⟩ := f j U hj
      exact ⟨q1, by rw [hz]; exact Nat.lt_succ_of_lt q2, x, y, hx, hy, k U _ q1 hp⟩
    · rw [List.getElem?_append_right (by omega)] at hj
      have : j - ts.length = 0 := by
        cases q : j - ts.length with
        | zero => rfl
        | succ m => rw [q] at hj; simp at hj
      rw [this] at hj
      simp only [List.getElem?_cons_zero, Option.some.injEq] at hj
      subst hj
      have ji : j = i := by omega
      subst ji
      exact ⟨hn, by rw [hz, hT]; exact Nat.lt_succ_self _, x, y, hx, hy, hp⟩
theorem zipT_loop {z TI TO i1 i2 l1 l2 S : Addr} {xs ys : Array Value} {n0 : Nat} (hh : A.handled = none) (D : ZipApart z TI TO i1 i2 l1 l2) (hS : ∀ c ∈ [z, TI, TO, i1, i2, l1, l2], c ≠ S) (hn0 : ∀ c ∈ [z, TI, TO, i1, i2, S], c < n0) (hn : min xs.size ys.size ≤ sizeLine) (res : Value) :
    ∀ (k i : Nat) (s : Shared) (acc : Array Value) (c : Nat), min xs.size ys.size - i = k → i ≤ min xs.size ys.size → ZSt s.heap z TI TO i1 i2 l1 l2 xs ys S i → n0 ≤ s.heap.objs.size → s.heap.get? S = some { cls := .type "list", dict := none, data := .seq acc c, slots := #[] } → ZAcc s.heap n0 xs ys acc i →
    (∀ h' acc' c', (∀ b o, b ≠ S → b ≠ z → b ≠ TO → b ≠ i1 → b ≠ i2 → s.heap.get? b = some o → h'.get? b = some o) → h'.get? S = some { cls := .type "list", dict := none, data := .seq acc' c', slots := #[] } → ZAcc h' n0 xs ys acc' (min xs.size ys.size) → R (.ok (.ret res)) { s with heap := h' }) →
    codeAny (model prog w) A (.builtin "list.extend.loop" ⟨[.ref S, .ref z, res], []⟩) R s := by
  have nS : S ≠ z ∧ S ≠ TO ∧ S ≠ i1 ∧ S ≠ i2 := ⟨(hS z (by simp)).symm, (hS TO (by simp)).symm, (hS i1 (by simp)).symm, (hS i2 (by simp)).symm⟩
  have up : ∀ c, n0 ≤ c → c ≠ z ∧ c ≠ TO ∧ c ≠ i1 ∧ c ≠ i2 ∧ c ≠ S := fun c hc => by
    have f : ∀ d, d < n0 → c ≠ d := fun d hd => Nat.ne_of_gt (Nat.lt_of_lt_of_le hd hc)
    exact ⟨f _ (hn0 z (by simp)), f _ (hn0 TO (by simp)), f _ (hn0 i1 (by simp)), f _ (hn0 i2 (by simp)), f _ (hn0 S (by simp))⟩
  intro k
  induction k with
  | zero =>
    intro i s acc c hk hi hst hsz hSo hacc hR
    have hin : i = min xs.size ys.size := by omega
    refine codeAny_builtin F.entry_extend_loop ?_
    rw [Around.under_plainId F.plain_extend_loop _]
    show wpAny _ A.in1 (pyNext (.ref z) >>= _) _ _ s
    refine wpAny_bind (hst.stop (A := A.in1) (by simpa using hh) D ?_ fun h' kk => ?_)
    · rcases Nat.le_total xs.size ys.size with q | q
      · exact .inl (Array.getElem?_eq_none (by omega))
      · exact .inr (Array.getElem?_eq_none (by omega))
    · refine wpAny_pure (hR h' acc c (fun b o _ a1 a2 a3 a4 e => kk b o a1 a2 a3 a4 e) (kk S _ nS.1 nS.2.1 nS.2.2.1 nS.2.2.2 hSo) ?_)
      rw [← hin]
      obtain ⟨ts, e, l, nd, f⟩ := hacc
      refine ⟨ts, e, l, nd, fun j T hj => ?_⟩
      obtain ⟨q1, q2, x, y, hx, hy, hp⟩ := f j T hj
      obtain ⟨a1, a2, a3, a4, _⟩ := up T q1
      have hp' : IsPair h' T x y := kk T _ a1 a2 a3 a4 hp
      exact ⟨q1, Heap.lt_size hp', x, y, hx, hy, hp'⟩
  | succ k ih =>
    intro i s acc c hk hi hst hsz hSo hacc hR
    have hlt : i < min xs.size ys.size := by omega
    have hix : i < xs.size := by omega
    have hiy : i < ys.size := by omega
    have asz : acc.size = i := by obtain ⟨ts, e, l, _⟩ := hacc; rw [← Array.length_toList, e, List.length_map, l]
    refine codeAny_builtin F.entry_extend_loop ?_
    rw [Around.under_plainId F.plain_extend_loop _]
    show wpAny _ A.in1 (pyNext (.ref z) >>= _) _ _ s
    refine wpAny_bind (hst.next (A := A.in1) D (Heap.lt_size hSo) (Array.getElem?_eq_getElem hix) (Array.getElem?_eq_getElem hiy) fun h' st' hp hsz' kk => ?_)
    have hS' := kk S _ nS.1 nS.2.1 nS.2.2.1 nS.2.2.2 hSo
    show wpAny _ A.in1 (updateSeq S (·.push (.ref s.heap.objs.size)) >>= _) _ _ _
    refine wpAny_bind ?_
    have sb := Heap.SameBut.update h' S (Obj.mapSeq (·.push (Value.ref s.heap.objs.size)))
    have usz : (h'.update S (Obj.mapSeq (·.push (Value.ref s.heap.objs.size)))).objs.size = h'.objs.size := sb.1
    refine wpAny_updateSeq (s := { s with heap := h' }) hS' rfl (wpAny_pure ⟨plainId_quiet F.plain_extend_loop _, ih (i + 1) _ (acc.push (.ref s.heap.objs.size)) _ (by omega) hlt (st'.keep D hS fun b o nb e => (sb.2 b nb).trans e) ?_ (Heap.get?_update_self _ hS' rfl) ?_ fun h'' acc' c' kk2 hS'' hacc' => ?_⟩)
      (by rw [asz]; omega) (by show (acc.push _).size ≤ sizeLine + 1; rw [Array.size_push, asz]; omega)
    · show n0 ≤ (h'.update S _).objs.size
      rw [usz, hsz']; omega
    · have a1 := hacc.push (T := s.heap.objs.size) h' hsz' rfl hsz (Array.getElem?_eq_getElem hix) (Array.getElem?_eq_getElem hiy) hp fun b o nb e => by
        obtain ⟨q1, q2, q3, q4, q5⟩ := up b nb
        exact kk b o q1 q2 q3 q4 e
      exact a1.keep (Nat.le_of_eq usz.symm) fun b o nb e => (sb.2 b (up b nb).2.2.2.2).trans e
    · exact hR h'' acc' c' (fun b o b0 b1 b2 b3 b4 e => kk2 b o b0 b1 b2 b3 b4 ((sb.2 b b0).trans (kk b o b1 b2 b3 b4 e))) hS'' hacc'

/-- list(z) of a zip of two tuples -/
theorem call_listZip {z TI TO i1 i2 l1 l2 : Addr} {xs ys : Array Value} {Q : Value → Shared → Prop} (hh : A.handled = none) (D : ZipApart z TI TO i1 i2 l1 l2)
    (hz : IsZip s.heap z TI TO .none) (hTI : IsPair s.heap TI (.ref i1) (.ref i2)) (hTO : ∃ a b, IsPair s.heap TO a b) (h1 : s.heap.IsTupleIter i1 l1 0) (h2 : s.heap.IsTupleIter i2 l2 0) (hl1 : s.heap.IsTuple l1 xs) (hl2 : s.heap.IsTuple l2 ys) (hn : min xs.size ys.size ≤ sizeLine)
    (hQ : ∀ h' acc c', (∀ b o, b ≠ z → b ≠ TO → b ≠ i1 → b ≠ i2 → s.heap.get? b = some o → h'.get? b = some o) → h'.get? s.heap.objs.size = some { cls := .type "list", dict := none, data := .seq acc c', slots := #[] } → ZAcc h' (s.heap.objs.size + 1) xs ys acc (min xs.size ys.size) → Q (.ref s.heap.objs.size) { s with heap := h' }) :
    wpAny (model prog w) A (call (.type "list") [.ref z]) Q E s := by
  have lt : ∀ {c o}, s.heap.get? c = some o → c < s.heap.objs.size := fun e => Heap.lt_size e
  have all : ∀ c ∈ [z, TI, TO, i1, i2, l1, l2], c < s.heap.objs.size := fun c m => by
    obtain ⟨a, b, ho⟩ := hTO
    obtain ⟨o1, e1, _⟩ := h1
    obtain ⟨o2, e2, _⟩ := h2
    obtain ⟨o3, e3, _⟩ := hl1
    obtain ⟨o4, e4, _⟩ := hl2
    simp only [List.mem_cons, List.not_mem_nil, or_false] at m
    rcases m with rfl | rfl | rfl | rfl | rfl | rfl | rfl
    all_goals first | exact lt hz | exact lt hTI | exact lt ho | exact lt e1 | exact lt e2 | exact lt e3 | exact lt e4
  refine callType_codes (Q₁ := fun obj s₁ => obj = .ref s.heap.objs.size ∧ s₁ = { s with heap := s.heap.push { cls := .type "list", data := .seq #[] } }) F.called_list (F.typeCall_list_1 _) F.entry_list_init
    (code_list_new _ ⟨rfl, rfl⟩) fun obj s₁ h₁ => ?_
  obtain ⟨rfl, rfl⟩ := h₁
  have hS : (s.heap.push { cls := .type "list", data := .seq #[] }).get? s.heap.objs.size = some { cls := .type "list", data := .seq #[] } := Heap.get?_push_size _ rfl
  refine ⟨⟨_, hS, rfl⟩, F.args_list_init_2 _ _, ?_⟩
  generalize eh0 : s.heap.push { cls := .type "list", data := .seq #[] } = h0 at hS
  have k0 : ∀ b o, s.heap.get? b = some o → h0.get? b = some o := fun b o e => by rw [← eh0]; exact Heap.get?_push_of_some _ e
  have z0 : h0.objs.size = s.heap.objs.size + 1 := by rw [← eh0]; exact Heap.size_push ..
  show wpAny _ A.in1.in1 (do let old ← Builtin.List.listItems (.ref s.heap.objs.size); Builtin.List.listUpdate (.ref s.heap.objs.size) (fun _ => #[]); letGo old.toList.reverse; Builtin.List.listExtendWith (.ref s.heap.objs.size) (.ref z) .none) _ _ _
  refine wpAny_bind ?_
  unfold Builtin.List.listItems
  refine wpAny_bind (wpAny_seqItems (s := { s with heap := h0 }) hS rfl (wpAny_pure ?_))
  show wpAny _ A.in1.in1 (updateSeq s.heap.objs.size (fun _ => #[]) >>= fun _ => letGo (#[] : Array Value).toList.reverse >>= fun _ => Builtin.List.listExtendWith (.ref s.heap.objs.size) (.ref z) .none) _ _ _
  refine wpAny_bind (wpAny_updateSeq (s := { s with heap := h0 }) hS rfl ?_)
  have hS₂ := Heap.get?_update_self (Obj.mapSeq (fun _ => (#[] : Array Value))) hS rfl
  have sb1 := Heap.SameBut.update h0 s.heap.objs.size (Obj.mapSeq (fun _ => (#[] : Array Value)))
  refine wpAny_bind (wpAny_letGo ?_)
  generalize eh1 : h0.update s.heap.objs.size (Obj.mapSeq (fun _ => (#[] : Array Value))) = h1' at hS₂ sb1
  have ne : ∀ b o, s.heap.get? b = some o → b ≠ s.heap.objs.size := fun b o e => Nat.ne_of_lt (lt e)
  have k1 : ∀ b o, s.heap.get? b = some o → h1'.get? b = some o := fun b o e => (sb1.2 b (ne b o e)).trans (k0 b o e)
  have hSz : s.heap.objs.size ≠ z := (ne z _ hz).symm
  have hT : Shared.TypeIs { s with heap := h1' } (.ref z) "zip" := ⟨_, k1 z _ hz, rfl⟩
  unfold Builtin.List.listExtendWith
  refine wpAny_bind (wpAny_typeOf hT ?_)
  have g1 : Builtin.List.listSameRef (.ref s.heap.objs.size) (.ref z) = false := by simp [Builtin.List.listSameRef, hSz]
  have g2 : (Value.type "zip" == Value.type "list") = false := by decide
  have g3 : (Value.type "zip" == Value.type "tuple") = false := by decide
  simp only [g1, g2, g3, Bool.or_false, Bool.false_eq_true, if_false]
  refine wpAny_bind (wpAny_pyIter_zip (s := { s with heap := h1' }) (k1 z _ hz) ?_)
  refine wpAny_bind (wpAny_holding ?_)
  unfold Builtin.List.listLengthHint
  refine wpAny_bind (wpAny_specialOf hT zip_no_len ?_)
  show wpAny _ A.in1.in1 (specialOf (Value.ref z) (Str.ofString "__length_hint__") >>= _) _ _ _
  refine wpAny_bind (wpAny_specialOf hT zip_no_hint ?_)
  refine wpAny_pure ?_
  show wpAny _ A.in1.in1 (rule "list.extend.makes-room" >>= fun _ => Builtin.List.listTouch (.ref s.heap.objs.size) >>= fun _ =>
    again (.builtin "list.extend.loop" ⟨[.ref s.heap.objs.size, .ref z, .none], []⟩)) _ _ _
  refine wpAny_bind (wpAny_rule ?_)
  refine wpAny_bind ?_
  show wpAny _ A.in1.in1 (updateSeq s.heap.objs.size (·.push .none) >>= fun _ => updateSeq s.heap.objs.size (·.pop)) _ _ _
  refine wpAny_bind (wpAny_updateSeq (s := { s with heap := h1' }) hS₂ rfl ?_)
  have hS₃ := Heap.get?_update_self (Obj.mapSeq (·.push Value.none)) hS₂ rfl
  refine wpAny_updateSeq (hz := by seq_fits) hS₃ rfl ?_
  have hS₄ := Heap.get?_update_self (Obj.mapSeq (·.pop)) hS₃ rfl
  have sb2 := (Heap.SameBut.update h1' s.heap.objs.size (Obj.mapSeq (·.push Value.none))).trans (Heap.SameBut.update _ s.heap.objs.size (Obj.mapSeq (·.pop)))
  generalize eh2 : ((h1'.update s.heap.objs.size (Obj.mapSeq (·.push Value.none))).update s.heap.objs.size (Obj.mapSeq (·.pop))) = h2' at hS₄ sb2
  have z2 : h2'.objs.size = s.heap.objs.size + 1 := by rw [sb2.1, sb1.1, z0]
  have k2 : ∀ b o, s.heap.get? b = some o → h2'.get? b = some o := fun b o e => (sb2.2 b (ne b o e)).trans (k1 b o e)
  refine wpAny_pure ⟨plainId_quiet F.plain_extend_loop _, zipT_loop (A := A.in1) (S := s.heap.objs.size) (n0 := s.heap.objs.size + 1) (by simpa using hh) D (fun c m => Nat.ne_of_lt (all c m)) (fun c m => ?_) hn .none _ 0 _ _ _ rfl (Nat.zero_le _) ?_ (Nat.le_of_eq z2.symm) hS₄ ⟨[], rfl, rfl, List.nodup_nil, fun j T hj => by simp at hj⟩ fun h' acc' c' kk hS' hacc => ?_⟩
  · simp only [List.mem_cons, List.not_mem_nil, or_false] at m
    rcases m with rfl | rfl | rfl | rfl | rfl | rfl
    · exact Nat.lt_succ_of_lt (all _ (by simp))
    · exact Nat.lt_succ_of_lt (all _ (by simp))
    · exact Nat.lt_succ_of_lt (all _ (by simp))
    · exact Nat.lt_succ_of_lt (all _ (by simp))
    · exact Nat.lt_succ_of_lt (all _ (by simp))
    · exact Nat.lt_succ_self _
  · obtain ⟨a, b, ho⟩ := hTO
    exact ⟨k2 _ _ hTI, h1.at fun o e => k2 _ o e, h2.at fun o e => k2 _ o e, hl1.at fun o e => k2 _ o e, hl2.at fun o e => k2 _ o e, .inl ⟨k2 _ _ hz, a, b, k2 _ _ ho⟩⟩
  · exact ⟨rfl, hQ h' acc' c' (fun b o b1 b2 b3 b4 e => kk b o (ne b o e) b1 b2 b3 b4 (k2 b o e)) hS' hacc⟩
end
end FW

set_option maxHeartbeats 4000000
namespace FW
open PySem PySem.Spec PyProof.Rows L2 RZ

/-! ### list(zip(t, u)): the rule -/
section
variable {X : Cx} {pins : List (Addr × Obj)} {σ : L2.St} {H H' : Hp} {s : Shared} {h' : Heap}
/-- more objects, some of them tracked -/
theorem grow {t' : Nat} (I : Inv X pins σ H s) (k : ∀ b u, s.heap.get? b = some u → h'.get? b = some u) (old : ∀ b, b < s.heap.objs.size → H' b = H b) (new : ∀ a o, s.heap.objs.size ≤ a → H' a = some o → ObjOk X.prog X.w H' h' a o) : Inv X pins σ H' { s with heap := h', toks := t' } := by
  have same : ∀ b o, H b = some o → H' b = some o := fun b o e => by rw [old b (I.hok.lt e)]; exact e
  refine I.un ⟨fun b o e _ _ _ => k b o e, fun b o e _ _ _ => ⟨o.slots, k b o e⟩, fun b o e n _ => ?_, fun b o e _ => ⟨o, k b o e⟩, fun b xs e => same b _ e, fun b o u e => same b _ e, fun b ps e => ⟨#[], by rw [same b _ e]; simp⟩⟩ fun b o e => ?_
  · rw [old b (Heap.lt_size e)]; exact n
  · by_cases hb : b < s.heap.objs.size
    · rw [old b hb] at e
      exact (I.hok b o e).stay (fun c u _ q => k c u q) (fun c q => same c _ q) fun c xs q => same c _ q
    · exact new b o (Nat.le_of_not_lt hb) e
end
def LaysT : Hp → List (List V) → (List V → Hp → Prop) → Prop
  | H, [], R => R [] H
  | H, x :: xs, R => ∀ p, H p = none → LaysT (upd H p (.tup x)) xs fun vs H' => R (.ref p :: vs) H'
def lays : Hp → List (Addr × List V) → Hp
  | H, [] => H
  | H, p :: ps => lays (upd H p.1 (.tup p.2)) ps
theorem lays_old : ∀ {ps : List (Addr × List V)} {H : Hp} {b : Addr}, b ∉ ps.map (·.1) → lays H ps b = H b
  | [], _, _, _ => rfl
  | p :: ps, H, b, n => by
    simp only [List.map_cons, List.mem_cons, not_or] at n
    rw [lays, lays_old n.2, upd_ne n.1]
theorem lays_new : ∀ {ps : List (Addr × List V)} {H : Hp} {b : Addr} {o : HO}, lays H ps b = some o → H b = some o ∨ ∃ p ∈ ps, b = p.1 ∧ o = .tup p.2
  | [], _, _, _, h => .inl h
  | p :: ps, H, b, o, h => by
    rw [lays] at h
    rcases lays_new h with h | ⟨q, m, e⟩
    · by_cases hb : b = p.1
      · rw [hb, upd_same] at h
        cases h
        exact .inr ⟨p, List.mem_cons_self, hb, rfl⟩
      · rw [upd_ne hb] at h
        exact .inl h
    · exact .inr ⟨q, List.mem_cons_of_mem _ m, e⟩
theorem laysT_at : ∀ {ps : List (Addr × List V)} {H : Hp} {R : List V → Hp → Prop}, LaysT H (ps.map (·.2)) R → (ps.map (·.1)).Nodup → (∀ p ∈ ps, H p.1 = none) → R (ps.map fun p => .ref p.1) (lays H ps)
  | [], _, _, h, _, _ => h
  | p :: ps, H, R, h, nd, fr => by
    have nd' := List.nodup_cons.mp nd
    exact laysT_at (ps := ps) (H := upd H p.1 (.tup p.2)) (R := fun vs H' => R (.ref p.1 :: vs) H') (h p.1 (fr p List.mem_cons_self)) nd'.2 fun q m => by
      rw [upd_ne (fun e => nd'.1 (by show p.1 ∈ _; rw [← e]; exact List.mem_map_of_mem (f := fun (x : Addr × List V) => x.1) m))]
      exact fr q (List.mem_cons_of_mem _ m)
def PZp (X : Cx) (e : Expr) (t : L2.St → Hp → (Addr → Addr → Hp → Prop) → Prop) : Prop := ∀ (pins : List (Addr × Obj)) (s : Shared) (σ : L2.St) (H : Hp) (Q : Addr → Addr → Hp → Prop), Inv X pins σ H s → t σ H Q →
  wpAny (model X.prog X.w) X.A (eval e X.env) (fun x s' => ∃ (s1 : Shared) (H1 : Hp) (h' : Heap) (a b : Addr), Inv X pins σ H1 s1 ∧ s' = { s1 with heap := h' } ∧ x = .ref (s1.heap.objs.size + 4) ∧ IsZip h' (s1.heap.objs.size + 4) (s1.heap.objs.size + 2) (s1.heap.objs.size + 3) .none ∧
    IsPair h' (s1.heap.objs.size + 2) (.ref s1.heap.objs.size) (.ref (s1.heap.objs.size + 1)) ∧ IsPair h' (s1.heap.objs.size + 3) .none .none ∧ h'.IsTupleIter s1.heap.objs.size a 0 ∧ h'.IsTupleIter (s1.heap.objs.size + 1) b 0 ∧ h'.objs.size = s1.heap.objs.size + 5 ∧
    (∀ c o, s1.heap.get? c = some o → h'.get? c = some o) ∧ a < s1.heap.objs.size ∧ b < s1.heap.objs.size ∧ (∃ xs, SqT X.K H1 a xs) ∧ (∃ ys, SqT X.K H1 b ys) ∧ Q a b H1) X.xe s
theorem pz_zip {X : Cx} {e e2 : Expr} {ta : TA} {p pos : Pos} (hg : Gl X "zip") (hm : X.mg "zip" = none) (ha : PA X [e, e2] ta)
    (hs : starEach [e, e2] X.env = (false, eval e X.env) :: starEach [e2] X.env := by rfl) (hpl : (backTo pos (starEach [e2] X.env)).any (·.1) = false := by rfl) :
    PZp X (.Call (.Name "zip" p) [e, e2] [] pos) (fun σ H Q => ta σ H fun vs H1 => ∃ a b, vs = [.ref a, .ref b] ∧ (∃ xs, SqT X.K H1 a xs) ∧ (∃ ys, SqT X.K H1 b ys) ∧ Q a b H1) := by
  intro pins s σ H Q I w
  refine Call_ (ld_blt I hg hm PyProof.Rows.boot_zip (PyProof.Rows.callWith_type1 (thn (ha.run pos pins s σ H _ I w) fun us s1 ⟨vs, H1, I1, r1, q1⟩ => ?_) hs hpl))
  obtain ⟨a, b, ex, ⟨xs, hqx⟩, ⟨ys, hqy⟩, q⟩ := q1
  subst ex
  cases r1 with
  | cons r rr =>
    cases rr with
    | cons r' rr =>
      cases rr
      cases r
      cases r'
      obtain ⟨its, rv, p1, _⟩ := I1.tuple hqx
      obtain ⟨its2, rv2, p2, _⟩ := I1.tuple hqy
      obtain ⟨o1, ho1, _⟩ := id p1
      obtain ⟨o2, ho2, _⟩ := id p2
      exact call_zipT (show s1.heap.IsTuple a its.toArray from p1) (show s1.heap.IsTuple b its2.toArray from p2) fun h' hz hTI hTO h1 h2 hsz hk =>
        ⟨s1, H1, h', a, b, I1, rfl, rfl, hz, hTI, hTO, h1, h2, hsz, hk, Heap.lt_size ho1, Heap.lt_size ho2, ⟨xs, hqx⟩, ⟨ys, hqy⟩, q⟩
def rZipL (K : PySem.W.Frag) (a b : Addr) (H : Hp) (Q : VK) : Prop := ∃ xs ys, SqT K H a xs ∧ SqT K H b ys ∧ LaysT H (List.zipWith (fun x y => [x, y]) xs ys) fun vs H1 => ∀ q, H1 q = none → Q (.ref q) (upd H1 q (.lst vs))
theorem pe_listZip {X : Cx} {e : Expr} {t : L2.St → Hp → (Addr → Addr → Hp → Prop) → Prop} {p pos : Pos} (hc : X.calm = true) (hg : Gl X "list") (hm : X.mg "list" = none) (he : PZp X e t) (na : starEach [e] X.env = (false, eval e X.env) :: starEach [] X.env := by rfl) :
    PE X (.Call (.Name "list" p) [e] [] pos) (fun σ H Q => t σ H fun a b H1 => rZipL X.K a b H1 Q) := by
  refine ⟨fun pins s σ H Q I h => ?_⟩
  refine Call_ (ld_blt I hg hm boot_list (callWith_type1 (args_cons (thn (he pins s σ H _ I h) fun x s' ⟨s1, H1, h1, a, b, I1, es, ex, hz, hTI, hTO, t1, t2, hsz, hk, la, lb, _, _, q⟩ => args_nil ?_) na) na))
  subst es
  subst ex
  obtain ⟨xs, ys, hqx, hqy, q⟩ := q
  obtain ⟨its, rv, p1, _⟩ := I1.tuple hqx
  obtain ⟨its2, rv2, p2, bz⟩ := I1.tuple hqy
  have l1 := rv.length
  have l2 := rv2.length
  have q1 : h1.IsTuple a its.toArray := (show s1.heap.IsTuple a its.toArray from p1).at fun o e => hk _ o e
  have q2 : h1.IsTuple b its2.toArray := (show s1.heap.IsTuple b its2.toArray from p2).at fun o e => hk _ o e
  refine call_listZip (s := { s1 with heap := h1 }) (I1.ok.hd hc) (PySem.W.ktu_apart s1.heap.objs.size a b la lb) hz hTI ⟨_, _, hTO⟩ t1 t2 q1 q2 (by simp only [List.size_toArray]; omega) fun h' acc c' kk hS hacc => ?_
  obtain ⟨ts, ea, lt, nd, f⟩ := hacc
  have mn : min its.toArray.size its2.toArray.size = min xs.length ys.length := by simp [l1, l2]
  rw [mn] at lt
  generalize ezw : List.zipWith (fun x y => [x, y]) xs ys = zw at q
  have lzw : zw.length = min xs.length ys.length := by rw [← ezw, List.length_zipWith]
  have hps : (ts.zip zw).map (·.2) = zw := List.map_snd_zip (by omega)
  have hps1 : (ts.zip zw).map (·.1) = ts := List.map_fst_zip (by omega)
  have fr : ∀ p ∈ ts.zip zw, H1 p.1 = none := fun p m => by
    have mt : p.1 ∈ ts := by rw [← hps1]; exact List.mem_map_of_mem m
    obtain ⟨j, hj⟩ := List.getElem?_of_mem mt
    have := (f j _ hj).1
    refine I1.hok.fresh (Nat.le_trans ?_ this)
    show s1.heap.objs.size ≤ h1.objs.size + 1
    rw [hsz]; omega
  have R := laysT_at (ps := ts.zip zw) (R := fun vs H2 => ∀ q, H2 q = none → Q (.ref q) (upd H2 q (.lst vs))) (by rw [hps]; exact q) (by rw [hps1]; exact nd) fr
  have refs : ((ts.zip zw).map fun p => V.ref p.1) = ts.map V.ref := by rw [← hps1, List.map_map]; rw [hps1]; rfl
  rw [refs] at R
  have Sn : h1.objs.size ∉ ts := fun m => by
    obtain ⟨j, hj⟩ := List.getElem?_of_mem m
    have := (f j _ hj).1
    exact Nat.lt_irrefl _ (show h1.objs.size < h1.objs.size from this)
  have S0 : lays H1 (ts.zip zw) h1.objs.size = none := by
    rw [lays_old (by rw [hps1]; exact Sn)]
    exact I1.hok.fresh (by rw [hsz]; omega)
  have vts : ∀ l : List Addr, Vals (l.map V.ref) (l.map Value.ref) := fun l => by
    induction l with
    | nil => exact .nil
    | cons x l ih => exact .cons rfl ih
  refine ⟨.ref h1.objs.size, upd (lays H1 (ts.zip zw)) h1.objs.size (.lst (ts.map V.ref)), ?_, rfl, R _ S0⟩
  show Inv X pins σ _ { s1 with heap := h', toks := s1.toks }
  refine grow (s := s1) I1 (fun b u e => ?_) (fun b hb => ?_) fun c o hc e => ?_
  · have lb := Heap.lt_size e
    have up : ∀ k : Nat, b ≠ s1.heap.objs.size + k := fun k => Nat.ne_of_lt (Nat.lt_of_lt_of_le lb (Nat.le_add_right _ k))
    exact kk b u (up 4) (up 3) (up 0) (up 1) (hk b u e)
  · rw [upd_ne (Nat.ne_of_lt (by rw [hsz]; omega)), lays_old]
    rw [hps1]
    intro m
    obtain ⟨j, hj⟩ := List.getElem?_of_mem m
    have := (f j _ hj).1
    have e1 : h1.objs.size + 1 ≤ b := this
    rw [hsz] at e1
    exact absurd hb (by omega)
  · by_cases hS1 : c = h1.objs.size
    · subst hS1
      rw [upd_same] at e
      cases e
      refine ⟨?_, ts.map Value.ref, c', vts ts, ?_⟩
      · rw [List.length_map, lt]; omega
      · rw [← ea, Array.toArray_toList]; exact hS
    · rw [upd_ne hS1] at e
      rcases lays_new e with e | ⟨pq, m, rfl, rfl⟩
      · rw [I1.hok.fresh hc] at e; cases e
      · obtain ⟨j, hj⟩ := List.getElem?_of_mem m
        have hj1 : ts[j]? = some pq.1 := by rw [← hps1, List.getElem?_map, hj]; rfl
        have hj2 : zw[j]? = some pq.2 := by rw [← hps, List.getElem?_map, hj]; rfl
        obtain ⟨_, _, x, y, hx, hy, hp⟩ := f j _ hj1
        rw [← ezw, List.getElem?_zipWith] at hj2
        cases gx : xs[j]? with
        | none => rw [gx] at hj2; cases ys[j]? <;> cases hj2
        | some vx =>
          cases gy : ys[j]? with
          | none => rw [gx, gy] at hj2; cases hj2
          | some vy =>
            rw [gx, gy] at hj2
            simp only [Option.some.injEq] at hj2
            obtain ⟨u, hu, ru⟩ := rv.get gx
            obtain ⟨u2, hu2, ru2⟩ := rv2.get gy
            have eu : x = u := by
              have : its.toArray[j]? = some u := by simpa using hu
              rw [this] at hx; cases hx; rfl
            have eu2 : y = u2 := by
              have : its2.toArray[j]? = some u2 := by simpa using hu2
              rw [this] at hy; cases hy; rfl
            subst eu; subst eu2
            rw [← hj2]
            exact ⟨by show 2 ≤ sizeLine; decide, [x, y], .cons ru (.cons ru2 .nil), ⟨_, hp, rfl, _, rfl⟩⟩

def fZipL (m : M (List D)) : M Ob := xbnd m fun ds _ st => match ds with
  | [.tup as, .tup bs] => some (.ok (.lst (List.zipWith (fun x y => D.ztp [x, y]) as bs)), st)
  | _ => none
theorem sim_lays {K : PySem.W.Frag} {r : Ad} {st : Store} : ∀ {as bs : List D} {xs ys : List V} {H : Hp} {R : List V → Hp → Prop}, Sim K r H st → RDs K r H as xs → RDs K r H bs ys →
    (∀ vs H1, Sim K r H1 st → Ext K r H r H1 → RDs K r H1 (List.zipWith (fun x y => D.ztp [x, y]) as bs) vs → R vs H1) → LaysT H (List.zipWith (fun x y => [x, y]) xs ys) R
  | [], _, xs, _, H, R, S, ha, hb, h => by
    simp only [RDs] at ha
    subst ha
    exact h [] H S (Ext.refl _ _ _) RDs.nil
  | a :: as, [], xs, ys, H, R, S, ha, hb, h => by
    simp only [RDs] at ha hb
    obtain ⟨x, xs', rfl, _, _⟩ := ha
    subst hb
    exact h [] H S (Ext.refl _ _ _) RDs.nil
  | a :: as, b :: bs, xs, ys, H, R, S, ha, hb, h => by
    simp only [RDs] at ha hb
    obtain ⟨x, xs', rfl, rx, ha⟩ := ha
    obtain ⟨y, ys', rfl, ry, hb⟩ := hb
    rw [List.zipWith_cons_cons, LaysT]
    intro p hp
    obtain ⟨S1, x1⟩ := S.side (o := .tup [x, y]) hp
    refine sim_lays S1 (ha.mono x1) (hb.mono x1) fun vs H1 S2 x2 hvs => h _ H1 S2 (x1.trans' S S1 x2) ?_
    rw [List.zipWith_cons_cons]
    refine RDs.cons ?_ hvs
    have d : RD K r (upd H p (.tup [x, y])) (.ztp [a, b]) (.ref p) := by
      simp only [RD]
      exact ⟨p, [x, y], rfl, ⟨.inl (.inl upd_same), fun z => by cases z⟩, RDs.cons (rx.mono x1) (RDs.cons (ry.mono x1) RDs.nil)⟩
    exact d.mono x2
theorem f_listZip {X : Cx} {EW : EWt} {e e2 : Expr} {ms : M (List D)} {p p2 q pos : Pos} (hc : X.calm = true) (hg : Gl X "list") (hm : X.mg "list" = none) (hg2 : Gl X "zip") (hm2 : X.mg "zip" = none) (ha : As X EW [e, e2] ms)
    (hs : starEach [e, e2] X.env = (false, eval e X.env) :: starEach [e2] X.env := by rfl) (hpl : (backTo q (starEach [e2] X.env)).any (·.1) = false := by rfl)
    (na : starEach [.Call (.Name "zip" p2) [e, e2] [] q] X.env = (false, eval (.Call (.Name "zip" p2) [e, e2] [] q) X.env) :: starEach [] X.env := by rfl) :
    EF X EW (.Call (.Name "list" p) [.Call (.Name "zip" p2) [e, e2] [] q] [] pos) (fZipL ms) := by
  refine PE.weak (pe_listZip hc hg hm (pz_zip hg2 hm2 ha hs hpl) na) ?_
  rintro σ H Q ⟨r, e, st, out, st', S, hE, h, P⟩
  refine bnd_stepO S hE h P fun r1 H1 vs ds st1 S1 x1 hE1 hd h1 => ?_
  dsimp only at h1
  split at h1
  · rename_i as bs
    cases h1
    obtain ⟨v, v', rfl, ra, rb⟩ := hd.two
    simp only [RD] at ra rb
    obtain ⟨a, xs, rfl, ta, rxs⟩ := ra
    obtain ⟨b, ys, rfl, tb, rys⟩ := rb
    refine ⟨a, b, rfl, ⟨xs, ta.1⟩, ⟨ys, tb.1⟩, xs, ys, ta.1, tb.1, ?_⟩
    exact sim_lays S1 rxs rys fun vs H2 S2 x2 hvs p hp => P.lay S S2 (x1.trans' S S1 x2) hp ⟨vs, rfl, hvs⟩
  · cases h1
end FW

set_option maxHeartbeats 4000000
namespace FW
open PySem PySem.Spec PyProof.Rows L2

/-! ### the head: the objects of the module without its lists -/
def nolist (q : Addr × Obj) : Bool := match q.2.cls with
  | .type n => n != "list"
  | _ => true
def frL (g : Addr → Option Obj) (as : List Addr) : PySem.W.Frag := (He.frG g as).filter nolist
/-- no list among the objects that are known -/
def NoL (K : PySem.W.Frag) : Prop := ∀ a o, K.lookup a = some o → o.cls ≠ .type "list"
theorem frL_mem {g : Addr → Option Obj} {as : List Addr} {a : Addr} {o : Obj} (h : (frL g as).lookup a = some o) : g a = some o ∧ o.cls ≠ .type "list" := by
  obtain ⟨h1, h2⟩ := List.mem_filter.mp (He.lookup_mem h)
  refine ⟨He.frG_mem h1, fun e => ?_⟩
  unfold nolist at h2
  rw [e] at h2
  exact absurd h2 (by decide)
def obsL (n : Nat) (fa : List He.Fa) (fn : List He.DefD) (g : Addr → Option Obj) : He.AlD := He.obsD fa fn (frL g (He.asD g n))
def hookL (n : Nat) (fa : List He.Fa) (fn : List He.DefD) : PySem.W.Hook where
  α := He.AlD
  obs := fun s => obsL n fa fn s.heap.get?
  val := fun _ => He.valD fn
  says := fun _ h => ∃ K : PySem.W.Frag, K.In h ∧ He.SaysD fa fn K ∧ NoL K
  of := fun _ _ e => ⟨_, fun _ _ h => (frL_mem h).1, e, fun _ _ h => (frL_mem h).2⟩
  keeps := fun _ _ _ ⟨K, hK, c, n⟩ k => ⟨K, PySem.W.Frag.In.keeps hK k, c, n⟩
theorem obsL_eq {n : Nat} {fa : List He.Fa} {fn : List He.DefD} {g : Addr → Option Obj} {s : Shared} (h : ∀ a, g a = s.heap.get? a) : obsL n fa fn g = (hookL n fa fn).obs s := by
  have e : g = s.heap.get? := funext h
  rw [e] <;> rfl
/-- THE END: the law's def is worth True -/
theorem walkD {l : PySem.W.OpenLaw} {n k : Nat} {q : Program} {loose : List Str} {XP : (Str → Option Value) → Heap → Prop} {YP : World → Heap → Prop} {d : DefRec} {x : Str} {F : Fn0}
    (hn : l.most = some n) (hn2 : n ≤ sizeLine) (hdf : d.params.defaults = []) (hr : Room k PySem.callerA)
    (hF : ∀ ns : List Int, ns.length ≤ n → ∃ st', F [.ref 0] [.flst (iD ns)] = some (.bl true, st'))
    (facts : ∀ (w : World) (mg : Str → Option Value) (fa : Addr) (h : Heap), YP w h → h.Ns mainGlobals mg → mg d.name = some (.ref fa) → ∃ (K : PySem.W.Frag) (fd : FuncData), K.In h ∧ NoL K ∧ (∀ (s : Shared) (u : Value), BindsTo s fd ⟨[u], []⟩ [(x, u)]) ∧
      ∀ base : Heap, K.In base → base.Ns mainGlobals mg → FnG l.prog w K mg base CX0 k fa fd [x] (spF K 1 F)) : PySem.W.WalkO q loose XP YP l.row.toRowW d [] (fun f vs => PySem.call f vs) := by
  refine walkG (x := x) hn hn2 hdf hr fun w mg fa h Y G hm => ?_
  obtain ⟨K, fd, KX, NK, hb, hG⟩ := facts w mg fa h Y G hm
  refine ⟨K, fd, spF K 1 F, KX, hb, fun H a ns hl hO hS => ?_, hG⟩
  obtain ⟨o, ho⟩ : ∃ o, H a = some (.frz o (.lst (ns.map V.int))) := by
    rcases hS with hR | ⟨o, its, m, e, hc, _⟩
    · rcases hR with e | e
      · rcases hO a with z | ⟨o, xs, z⟩
        · rw [e] at z; cases z
        · rw [e] at z; cases z
      · exact e
    · exact absurd hc (NK a o e)
  obtain ⟨st', hF⟩ := hF ns hl
  have hd : ∀ (ns : List Int) (r : Ad), RDs K r H (iD ns) (ns.map V.int) := by
    intro ns r
    induction ns with
    | nil => exact RDs.nil
    | cons i ns ih => exact RDs.cons (by simp only [RD]) ih
  refine ⟨⟨[a], []⟩, [.flst (iD ns)], [.ref 0], .bl true, st', ⟨rfl, by simp, by simp, ?_⟩, RDs.cons (by simp only [RD]; exact ⟨a, rfl, rfl⟩) RDs.nil, rfl, hF, ?_⟩
  · intro i b ob e1 e2
    cases i with
    | succ i => simp at e1
    | zero =>
      simp only [List.getElem?_cons_zero, Option.some.injEq] at e1 e2
      subst e1 e2
      exact ⟨o, _, ho, hd ns _⟩
  · intro r' H' v S x hv
    simpa only [RD] using hv
end FW

set_option maxHeartbeats 4000000
namespace FW
open PySem PySem.Spec L2

/-! ### {**a, **b} -/
section
variable {prog : Program} {w : World} {K : Type} [DecidableEq K] {knd : PySem.KeyKind prog w K} {A : Around} {E : Value → Shared → Prop} {s : Shared}
theorem dictPut_at {d : Addr} {kvs : List (K × Value)} {k : K} {key v : Value} {Q : Unit → Shared → Prop} (hkey : knd.is k key = true) (hm : s.heap.DictOf knd d kvs) (hsz : kvs.length ≤ sizeLine)
    (hQ : ∀ h', h'.DictOf knd d (stored kvs k v) → Heap.SameBut d s.heap h' → Q () { s with heap := h' }) :
    wpAny (model prog w) A (dictPut d (knd.hash k) key v) Q E s := by
  obtain ⟨o, es, ep, ho, hc, hd, hk, hp, hn⟩ := hm
  have size : es.size ≤ sizeLine := by
    have := hp.length
    rw [Array.length_toList] at this
    omega
  unfold dictPut
  refine wpAny_bind (wpAny_dictFind_of hkey ho hd hk ?_)
  have find : (es.findIdx? fun e => knd.is k e.key) = kvs.findIdx? fun kv => decide (kv.1 = k) := by
    rw [← hp.findIdx k]
    cases es
    simp
  cases hi : es.findIdx? fun e => knd.is k e.key with
  | some i =>
    have there := any_of_findIdx_some (find ▸ hi)
    refine wpAny_updateDict ho hd (hQ _ ⟨_, _, ep, Heap.get?_update_self _ ho (Obj.isFreed_of_dict (Obj.data_mapDict hd _)), hc.mapDict _, Obj.data_mapDict hd _, hk.modify _ _, ?_, ?_⟩ (Heap.SameBut.update ..))
    · rw [stored, if_pos there]
      have at_ : (es.toList.findIdx? fun e => knd.is k e.key) = some i := by
        rw [← hi]
        cases es
        simp
      have := hp.modify hn at_ v
      cases es
      simpa using this
    · rw [stored, if_pos there, keys_map_store]
      exact hn
  | none =>
    have away : k ∉ kvs.map (·.1) := not_mem_of_findIdx_none (find ▸ hi)
    have no : ¬ (kvs.any fun kv => decide (kv.1 = k)) = true := fun z => by
      obtain ⟨kv, m, e⟩ := List.any_eq_true.mp z
      exact away (List.mem_map.mpr ⟨kv, m, of_decide_eq_true e⟩)
    refine wpAny_updateDictKeys (hz := size) ho hd (hQ _ ⟨_, _, ep + 1, Heap.get?_update_self _ ho (Obj.isFreed_of_dict (Obj.data_mapDictKeys hd _)), hc.mapDictKeys _, Obj.data_mapDictKeys hd _, hk.push hkey _, ?_, ?_⟩ (Heap.SameBut.update ..))
    · rw [stored, if_neg no]
      have := hp.append hkey (knd.hash k) v
      cases es
      simpa using this
    · rw [stored, if_neg no, List.map_append, List.nodup_append]
      refine ⟨hn, by simp, fun a ha b hb e => ?_⟩
      simp only [List.map_cons, List.map_nil, List.mem_singleton] at hb
      exact away (by rw [← hb, ← e]; exact ha)
theorem merge_at {d o : Addr} {kvs more : List (K × Value)} {Q : Unit → Shared → Prop} (hdo : d ≠ o) (hoS : (o == sysModules) = false) (nr : ∀ k v, knd.is k v = true → ∀ a, v ≠ .ref a) (hd : s.heap.DictOf knd d kvs) (ho : s.heap.DictOf knd o more)
    (hsz : kvs.length + more.length ≤ sizeLine) (hQ : ∀ h', h'.DictOf knd d (merged kvs more) → Heap.SameBut d s.heap h' → Q () { s with heap := h' }) :
    wpAny (model prog w) A (mergeMapping d (.ref o) false) Q E s := by
  obtain ⟨oo, eso, epo, hoo, hco, hdo', hko, hpo, hno⟩ := id ho
  have len : more.length = eso.size := by
    have := hpo.length
    rw [Array.length_toList] at this
    exact this.symm
  unfold mergeMapping
  refine wpAny_bind (wpAny_isInstance ho.typeIs isSubtype_dict_dict ?_)
  rw [if_pos rfl]
  refine wpAny_bind (wpAny_specialOf ho.typeIs F.slot_dict_iter.lookup ?_)
  rw [beq_self_eq_true]
  refine wpAny_bind (wpAny_pure ?_)
  dsimp only
  rw [if_neg (by rw [hoS]; exact Bool.false_ne_true)]
  obtain ⟨od, esd, epd, hod, hcd, hdd, hkd, hpd, hnd⟩ := id hd
  have loop : wpAny (model prog w) A (do
      let l ← dictEntries o
      let epoch ← dictEpoch o
      forIn (List.range l.size) PUnit.unit fun i (_ : PUnit) => (do
          let l' ← dictEntries o
          match l'[i]? with
            | some e => do
              holding [e.key, e.val] (dictPut d e.hash e.key e.val)
              let ep' ← dictEpoch o
              if (ep' != epoch) = true then do
                  (unsupported "dict.changed-during-merge" : Sem PUnit)
                  pure (ForInStep.yield PUnit.unit)
                else pure (ForInStep.yield PUnit.unit)
            | _ => do
              (unsupported "dict.changed-during-merge" : Sem PUnit)
              pure (ForInStep.yield PUnit.unit) : Sem (ForInStep PUnit))
      pure ()) Q E s := by
    refine wpAny_bind (wpAny_dictEntries hoo hdo' ?_)
    refine wpAny_bind (wpAny_dictEpoch hoo hdo' ?_)
    refine wpAny_bind ?_
    refine wpAny_forIn_list _ (fun rest _ s' => ∃ h' i, s' = { s with heap := h' } ∧ rest = List.range' i (eso.size - i) ∧ i ≤ eso.size ∧ h'.DictOf knd d (merged kvs (more.take i)) ∧ h'.get? o = some oo ∧ Heap.SameBut d s.heap h')
      _ ?_ ?_ _ _ ⟨s.heap, 0, rfl, by simp [List.range_eq_range'], Nat.zero_le _, by simpa [merged] using hd, hoo, Heap.SameBut.refl _ _⟩
    · rintro x rest b s' ⟨h', i, rfl, hr, hi, at_, hoo', same⟩
      have lt : i < eso.size := by
        by_cases z : i < eso.size
        · exact z
        · rw [Nat.sub_eq_zero_of_le (Nat.le_of_not_lt z)] at hr
          simp at hr
      have step : eso.size - i = (eso.size - (i + 1)) + 1 := by omega
      rw [step, List.range'_succ] at hr
      injection hr with e1 e2
      subst e1
      refine wpAny_bind (wpAny_dictEntries hoo' hdo' ?_)
      rw [Array.getElem?_eq_getElem lt]
      have ml : x < more.length := by rw [len]; exact lt
      have hkv : more[x]? = some more[x] := List.getElem?_eq_getElem ml
      obtain ⟨hkey, hval⟩ := hpo.get? (e := eso[x]) (by simp [lt]) (show more[x]? = some (more[x].1, more[x].2) from hkv)
      obtain ⟨k', hkey', hhash⟩ := hko eso[x] (Array.getElem_mem lt)
      have ek : k' = more[x].1 := knd.inj _ _ _ hkey' hkey
      subst ek
      have room : (merged kvs (more.take x)).length ≤ sizeLine := by
        have l1 := merged_length_le kvs (more.take x)
        have l2 : (more.take x).length ≤ more.length := by rw [List.length_take]; exact Nat.min_le_right _ _
        omega
      show wpAny _ _ (holding [eso[x].key, eso[x].val] (dictPut d eso[x].hash eso[x].key eso[x].val) >>= _) _ _ _
      rw [hhash, hval]
      refine wpAny_bind (wpAny_holding (dictPut_at hkey at_ room fun h'' at2 same2 => ?_))
      have hoo'' : h''.get? o = some oo := (same2.2 o (Ne.symm hdo)).trans hoo'
      refine wpAny_bind (wpAny_dictEpoch hoo'' hdo' ?_)
      rw [if_neg (by simp)]
      exact wpAny_pure ⟨h'', x + 1, rfl, e2, lt, by rw [merged_take_succ kvs more x _ hkv]; exact at2, hoo'', same.trans same2⟩
    · rintro b s' ⟨h', i, rfl, hr, hi, at_, hoo', same⟩
      have full : i = eso.size := by
        by_cases z : i < eso.size
        · have step : eso.size - i = (eso.size - (i + 1)) + 1 := by omega
          rw [step, List.range'_succ] at hr
          cases hr
        · omega
      rw [full, ← len, List.take_length] at at_
      exact wpAny_pure (hQ h' at_ same)
  refine wpAny_bind (wpAny_dictEntries hod hdd ?_)
  split
  · refine wpAny_bind (wpAny_dictEntries hoo hdo' ?_)
    refine wpAny_bind ?_
    refine wpAny_of_eq (a := PUnit.unit) ?_ loop
    rw [← Array.forIn_toList]
    refine forIn_yield_id _ fun e m c => ?_
    obtain ⟨k, hkey, _⟩ := hko e (Array.mem_toList_iff.mp m)
    have := nr k e.key hkey
    split
    · rename_i a' ea
      exact absurd ea (this a')
    · rfl
  · exact loop
end
end FW

set_option maxHeartbeats 4000000
namespace FW
open PySem PySem.Spec L2
section
variable {X : Cx}
theorem mix_noref {P : Program} {w : World} (k : Key) (v : Value) (h : (mixKind P w).is k v = true) (a : Addr) : v ≠ .ref a := by
  rcases keyIs_shape (show keyIs k v = true from h) with ⟨i, t, _, ev⟩ | ⟨x, t, _, ev⟩
  · rw [ev]; intro z; cases z
  · rw [ev]; intro z; cases z
/-- d.update(e), while a display is made -/
theorem merge_mem {pins : List (Addr × Obj)} {σ : L2.St} {H : Hp} {s : Shared} {A : Around} {E : Value → Shared → Prop} {a b : Addr} {kvs more : List (Key × V)} {Q : Unit → Shared → Prop} (I : Inv X pins σ H s) (ne : a ≠ b) (ha : H a = some (.dK kvs)) (hb : Rd H b (.dK more)) (hz : kvs.length + more.length ≤ sizeLine)
    (q : ∀ s', Inv X pins σ (upd H a (.dK (mergeK kvs more))) s' → Q () s') : wpAny (model X.prog X.w) A (mergeMapping a (.ref b) false) Q E s := by
  obtain ⟨z1, l1, vs1, r1, d1⟩ := dk_of I.hok ha
  obtain ⟨z2, l2, vs2, r2, d2⟩ := dk_rd I.hok hb
  refine merge_at ne l2 mix_noref d1 d2 (by rw [← r1.length, ← r2.length]; exact hz) fun h' dd' hs => ?_
  have he : ∃ q, h'.get? a = some q := let ⟨q, _, _, hq, _⟩ := dd'; ⟨q, hq⟩
  exact q _ (d_write (t' := s.toks) I (by rw [ha]; exact True.intro) hs he (dk_new (Nat.le_trans (length_mergeK more kvs) hz) l1 (r2.merge r1) dd'))
def tDisp2 (ta tb : TE) : TE := fun σ H Q => ∀ p, H p = none → ta σ (upd H p (.dK [])) fun x H1 => ∃ a kvs, x = .ref a ∧ p ≠ a ∧ H1 p = some (.dK []) ∧ Rd H1 a (.dK kvs) ∧
  tb σ (upd H1 p (.dK (mergeK [] kvs))) fun y H2 => ∃ b more, y = .ref b ∧ p ≠ b ∧ H2 p = some (.dK (mergeK [] kvs)) ∧ Rd H2 b (.dK more) ∧ (mergeK [] kvs).length + more.length ≤ sizeLine ∧ Q (.ref p) (upd H2 p (.dK (mergeK (mergeK [] kvs) more)))
theorem pe_disp2 {a b : Expr} {pos : Pos} {ta tb : TE} (ha : PE X a ta) (hb : PE X b tb) : PE X (.Dict [none, none] [a, b] pos) (tDisp2 ta tb) := by
  constructor
  intro pins s σ H Q I q
  have hn := I.hok.fresh (Nat.le_refl s.heap.objs.size)
  have I1 := I.laid (a := s.heap.objs.size) (o := .dK []) (h' := s.heap.push { cls := .type "dict", data := .dict #[] }) (t' := s.toks) (fun _ _ q => Heap.get?_push_of_some _ q) (Nat.le_refl _) (dk_empty s.heap I.big)
  rw [arm_eval_Dict]
  refine wpAny_bind (wpAny_standAt ?_)
  show wpAny _ _ (dictDisplay [(none, do let x ← eval a X.env; standAt pos; pure x), (none, do let x ← eval b X.env; standAt pos; pure x)]) _ _ s
  unfold dictDisplay
  simp only [List.forIn_cons, List.forIn_nil, List.isEmpty_nil, if_true]
  refine wpAny_bind (wpAny_bind (wpAny_bind (wpAny_pure ?_)))
  refine wpAny_bind (wpAny_alloc ?_)
  have turn : ∀ {A : Around} {d : Addr} {m : Value} {s' : Shared} {E : Value → Shared → Prop} {R : Unit → Shared → Prop}, (∀ E', wpAny (model X.prog X.w) A (mergeMapping d m false) R E' s') →
      wpAny (model X.prog X.w) A ((((holding [Value.ref d, m] (mergeMapping d m false)).onRaise fun x => do
          let _ ← holding [Value.ref d, m, x] (runValue (Code.builtin "proto.let_go" { }))
          pure ()).tryCatch fun e => do
          let l ← isInstance e (Value.type "AttributeError")
          if l = true then do
            rule "dict.display.not-a-mapping"
            let l ← typeNameOf m
            raiseErrorMade "TypeError" (toString "'" ++ toString l ++ toString "' object is not a mapping")
            throw e
          else throw e).onRaise fun x => do
          let _ ← holding [Value.ref d, x] (runValue (Code.builtin "proto.let_go" { }))
          pure ()) R E s' := fun h => wpAny_onRaise (wpAny_tryCatch (wpAny_onRaise (wpAny_holding (h _))))
  refine wpAny_bind (wpAny_holding (wpAny_bind (thn (ha.run pins _ σ _ _ I1 (q _ hn)) fun v s2 ⟨x, H1, I2, rx, a', kvs, ex, ne, hp1, ha1, q2⟩ => ?_)))
  subst ex
  cases rx
  refine wpAny_bind (wpAny_standAt (wpAny_pure ?_))
  refine wpAny_bind (turn fun E' => ?_)
  have sz1 : ([] : List (Key × V)).length + kvs.length ≤ sizeLine := by
    obtain ⟨z, _⟩ := dk_rd I2.hok ha1
    simpa using z
  refine merge_mem I2 ne hp1 ha1 sz1 fun s3 I3 => ?_
  refine wpAny_pure ?_
  dsimp only
  refine wpAny_bind (wpAny_bind ?_)
  simp only [List.isEmpty_nil, if_true]
  refine wpAny_pure ?_
  refine wpAny_bind (wpAny_pure ?_)
  refine wpAny_bind (wpAny_holding (wpAny_bind (thn (hb.run pins _ σ _ _ I3 q2) fun v s4 ⟨y, H2, I4, ry, b', more, ey, ne2, hp2, hb2, sz2, q3⟩ => ?_)))
  subst ey
  cases ry
  refine wpAny_bind (wpAny_standAt (wpAny_pure ?_))
  refine wpAny_bind (turn fun E' => ?_)
  refine merge_mem I4 ne2 hp2 hb2 sz2 fun s5 I5 => ?_
  refine wpAny_pure ?_
  dsimp only
  refine wpAny_pure ?_
  refine wpAny_bind ?_
  simp only [List.isEmpty_nil, if_true]
  refine wpAny_pure ?_
  dsimp only
  exact wpAny_pure ⟨.ref s.heap.objs.size, _, I5, rfl, q3⟩
end
end FW

set_option maxHeartbeats 4000000
namespace FW
open PySem L2
noncomputable def xDisp2 (ma mb : M D) : M Ob := fun e st => match ma e st with
  | some (.ok d, st1) => match dctOf d st1 with
    | some (ks, ds) => match mb e st1 with
      | some (.ok d2, st2) => match dctOf d2 st2 with
        | some (ks2, ds2) => if ks.length + ks2.length ≤ sizeLine then some (.ok (.dct (mergeD (mergeD [] [] ks ds).1 (mergeD [] [] ks ds).2 ks2 ds2).1 (mergeD (mergeD [] [] ks ds).1 (mergeD [] [] ks ds).2 ks2 ds2).2), st2) else none
        | none => none
      | _ => none
    | none => none
  | _ => none
section
variable {X : Cx} {EW : EWt}
theorem hid_ne {K : PySem.W.Frag} {r : Ad} {H : Hp} {st : Store} {d : D} {a p : Addr} {z : List D × List D} (S : Sim K ⟨r.r, p :: r.x⟩ H st) (h : RD K ⟨r.r, p :: r.x⟩ H d (.ref a)) (e : dctOf d st = some z) : p ≠ a := by
  rintro rfl
  cases d with
  | dct ks ds =>
    simp only [RD] at h
    obtain ⟨a', kvs, e', s, m, _⟩ := h
    cases e'
    exact m.2 List.mem_cons_self
  | ref k =>
    simp only [RD] at h
    obtain ⟨a', e1, e2⟩ := h
    cases e2
    exact (S.xs p List.mem_cons_self).2 (List.mem_of_getElem? e1)
  | _ => cases e
theorem f_disp2 {a b : Expr} {pos : Pos} {ma mb : M D} (ha : E X noX a ma) (hb : E X noX b mb) : EF X EW (.Dict [none, none] [a, b] pos) (xDisp2 ma mb) := by
  refine PE.weak (pe_disp2 ha hb) ?_
  rintro σ H Q ⟨r, e, st, out, st', S, hE, h, P⟩
  intro p hp
  unfold xDisp2 at h
  have L0 := DcI.begin (K := X.K) S hp
  split at h
  · rename_i d st1 q1
    split at h
    · rename_i ks ds q2
      split at h
      · rename_i d2 st2 q3
        split at h
        · rename_i ks2 ds2 q4
          split at h
          · rename_i hz
            cases h
            refine ⟨_, e, st, .ok d, st1, L0.sim, hE.tr (L0.tr hp), q1, fun r1 H1 x S1 x1 hd => ?_⟩
            obtain ⟨L1, er1⟩ := L0.step S1 x1
            rw [er1] at hd S1
            obtain ⟨a', kvs, rfl, s1, k1, t1⟩ := dctOf_ok S1 hd q2
            have ne1 := hid_ne (r := ⟨r1.r, r.x⟩) L1.sim hd q2
            obtain ⟨kv0, e0, hk0, _⟩ := L1.dct
            have z0 : kv0 = [] := by cases kv0 with
              | nil => rfl
              | cons => cases hk0
            subst z0
            obtain ⟨m1, m2⟩ := mergeD_ok (more := kvs) (kvs := []) (ks := []) (ds := []) t1 rfl RDs.nil
            rw [← k1] at m1 m2
            have L2 := L1.put hp e0 m1 m2
            refine ⟨a', kvs, rfl, ne1, e0, s1, ?_⟩
            refine ⟨_, e, st1, .ok d2, _, L2.sim, hE.tr (L2.tr hp), q3, fun r3 H3 y S3 x3 hd3 => ?_⟩
            obtain ⟨L3, er3⟩ := L2.step S3 x3
            rw [er3] at hd3 S3
            obtain ⟨b', more, rfl, s3, k3, t3⟩ := dctOf_ok S3 hd3 q4
            have ne3 := hid_ne (r := ⟨r3.r, r.x⟩) L3.sim hd3 q4
            obtain ⟨kv3, e3, hk3, hq3⟩ := L3.dct
            have np : p ∉ r1.r := (L2.sim.xs p List.mem_cons_self).2
            have e3' : H3 p = some (.dK (mergeK [] kvs)) := (x3.keep p _ upd_same np).xs List.mem_cons_self
            have z3 : kv3 = mergeK [] kvs := by rw [e3'] at e3; cases e3; rfl
            subst z3
            obtain ⟨m3, m4⟩ := mergeD_ok (more := more) (kvs := mergeK [] kvs) t3 hk3 hq3
            rw [← k3] at m3 m4
            have L4 := L3.put hp e3 m3 m4
            refine ⟨b', more, rfl, ne3, e3, s3, ?_, ?_⟩
            · have l1 := length_mergeK kvs []
              rw [List.length_nil, Nat.zero_add] at l1
              rw [k1, k3, List.length_map, List.length_map] at hz
              omega
            · obtain ⟨kv4, e4, k4, q5⟩ := L4.dct
              have z4 : kv4 = mergeK (mergeK [] kvs) more := by rw [upd_same] at e4; cases e4; rfl
              subst z4
              exact P _ _ p L4.sim L4.ext (by rw [L4.ext.x]; exact (S.notin hp).2) ⟨_, upd_same, k4, q5⟩ hp
          · cases h
        · cases h
      · cases h
    · cases h
  · cases h
end
end FW

set_option maxHeartbeats 4000000
namespace FW
open PySem L2

/-! ### list(dict), all(xs), repr of truths, x in data, tuples of texts of the module -/
def oListB : Fo0 := fun as st => match as with
  | [d] => match seqOf d st with
    | some ds => some (.lst ds)
    | none => match dctOf d st with
      | some p => some (.lst p.1)
      | none => none
  | _ => none
def rListB (K : PySem.W.Frag) : List V → Hp → VK → Prop := fun xs H Q => rListAll K xs H Q ∨ ∃ (a : Addr) (kvs : List (Key × V)), xs = [.ref a] ∧ Rd H a (.dK kvs) ∧ ∀ p, H p = none → Q (.ref p) (upd H p (.lst (kvs.map fun kv => kV kv.1)))
theorem rds_keys {K : PySem.W.Frag} {r : Ad} {H : Hp} : ∀ (kvs : List (Key × V)), RDs K r H (kvs.map fun kv => kD kv.1) (kvs.map fun kv => kV kv.1)
  | [] => RDs.nil
  | (k, v) :: kvs => RDs.cons (by cases k <;> simp only [kD, kV, RD]) (rds_keys kvs)
theorem oListB_ok {K : PySem.W.Frag} : FoS K (rListB K) oListB := by
  intro r H st ds vs ob Q S hs h P
  unfold oListB at h
  split at h
  · rename_i d
    split at h
    · rename_i xs e
      exact .inl (oList_ok r H st [d] vs ob Q S hs (by unfold oList; simp only [e]; exact h) P)
    · split at h
      · rename_i p e
        obtain ⟨ks, xs⟩ := p
        cases h
        obtain ⟨v, rfl, hv⟩ := hs.one
        obtain ⟨a, kvs, rfl, s, k, t⟩ := dctOf_ok S hv e
        exact .inr ⟨a, kvs, rfl, s, fun p hp => P p _ hp ⟨_, rfl, by dsimp only; rw [k]; exact rds_keys kvs⟩⟩
      · cases h
  · cases h
theorem call_listB {X : Cx} (hc : X.calm = true) : CallR X (.type "list") (rListB X.K) := CallR.or call_list_of (call_listD hc)
def fAll : Fn0 := fun as st => match as with
  | [d] => match (rdlOf d st).bind blsD with
    | some bs => some (.bl (bs.all id), st)
    | none => none
  | _ => none
theorem fAll_ok {K : PySem.W.Frag} : CallS K (rAll K) fAll := by
  intro r H st ds vs z st' Q S hs h P
  unfold fAll at h
  split at h
  · rename_i d
    split at h
    · rename_i bs e
      cases h
      obtain ⟨v, rfl, hv⟩ := hs.one
      cases q : rdlOf d st with
      | none => rw [q] at e; cases e
      | some xs =>
        rw [q] at e
        obtain ⟨a, ws, rfl, s, t⟩ := rdlOf_ok S hv q
        rw [blsD_ok e t] at s
        exact ⟨a, bs, rfl, s, P.bl S⟩
    · cases h
  · cases h
noncomputable def fReprB : Fn0 := fun as st => match as with
  | [.bl b] => some (.str (if b then "True" else "False"), st)
  | as => fRepr as st
def rReprBl : List V → Hp → VK → Prop := fun xs H Q => ∃ b, xs = [.bl b] ∧ Q (.str (if b then "True" else "False")) H
theorem cr_reprBl {X : Cx} : CallR X (.builtin "repr") rReprBl := by
  intro pins s σ H vs us Q I rel hh
  obtain ⟨b, rfl, q⟩ := hh
  obtain ⟨u, rfl, rx⟩ := vals1 rel
  cases rx
  exact PySem.P.repr_of_bool ⟨.str (if b then "True" else "False"), H, I.tok _, ⟨_, rfl⟩, q⟩
def rReprB (K : PySem.W.Frag) : List V → Hp → VK → Prop := fun xs H Q => rReprBl xs H Q ∨ rReprAll K xs H Q
theorem cr_reprB {X : Cx} (hg : X.A.guards = some []) (hu : X.A.units + 66 < cLine) : CallR X (.builtin "repr") (rReprB X.K) := CallR.or cr_reprBl (cr_reprAll hg hu)
theorem fReprB_ok {K : PySem.W.Frag} : CallS K (rReprB K) fReprB := by
  intro r H st ds vs z st' Q S hs h P
  unfold fReprB at h
  split at h
  · cases h
    obtain ⟨v, rfl, hv⟩ := hs.one
    exact .inl ⟨_, by rw [hv.bl_], P.str S⟩
  · exact .inr (fRepr_ok r H st ds vs z st' Q S hs h P)
/-- x in xs of data -/
def InDp (x y : D) (st : Store) (q : PyData × List PyData) : Prop := PD st x q.1 ∧ PD st y (.list q.2) ∧ SeqAt.shaped q.1 = true ∧ SeqAt.shaped (.list q.2) = true
def inDv (neg : Bool) (q : PyData × List PyData) : Bool := if neg then !(q.2.any fun z => PyData.eqv z q.1) else q.2.any fun z => PyData.eqv z q.1
open Classical in
noncomputable def oInD (neg : Bool) : F2 := fun x y st => if h : ∃ q, InDp x y st q then some (.bl (inDv neg (Classical.choose h)), st) else none
theorem oInD_of {neg : Bool} {x y : D} {st : Store} {p : PyData} {ps : List PyData} (h1 : PD st x p) (h2 : PD st y (.list ps)) (h3 : SeqAt.shaped p = true) (h4 : SeqAt.shaped (.list ps) = true) : oInD neg x y st = some (.bl (inDv neg (p, ps)), st) := by
  have h : ∃ q, InDp x y st q := ⟨(p, ps), h1, h2, h3, h4⟩
  unfold oInD
  rw [dif_pos h]
  have s := Classical.choose_spec h
  have e1 := s.1.det h1
  have e2 := s.2.1.det h2
  injection e2 with e2
  have e : Classical.choose h = (p, ps) := Prod.ext e1 e2
  rw [e]
def rInDn (K : PySem.W.Frag) (neg : Bool) : R2 := fun x y H Q => ∃ d ds, Dp K H x d ∧ Dp K H y (.list ds) ∧ SeqAt.shaped d = true ∧ SeqAt.shaped (.list ds) = true ∧ Q (.bl (inDv neg (d, ds))) H
theorem op_inDD {X : Cx} (hu : X.A.units + 66 < cLine) : OpR X (compareOp .In) (rInDn X.K false) := op_inD (by omega)
theorem op_notInDD {X : Cx} (hu : X.A.units + 66 < cLine) : OpR X (compareOp .NotIn) (rInDn X.K true) := op_notInD (by omega)
theorem oInD_ok {K : PySem.W.Frag} {neg : Bool} : OpS K (rInDn K neg) (oInD neg) := by
  intro r H st d c x y z st' Q S hd hc h P
  unfold oInD at h
  split at h
  · rename_i e
    cases h
    have s := Classical.choose_spec e
    exact ⟨_, _, s.1.dp S hd, s.2.1.dp S hc, s.2.2.1, s.2.2.2, P.bl S⟩
  · cases h
/-! ### a tuple of texts of the module -/
def tupN (K : PySem.W.Frag) (x : Str) (vs : List Str) : Bool := match K.lookup (He.ga K x) with
  | some ⟨.type c, none, .seq its _, _⟩ => decide (c = "tuple") && (decide (its.size ≤ sizeLine) && He.relAll (vs.map V.str) its.toList)
  | _ => false
/-- the module's name x is that tuple -/
def KtT (K : PySem.W.Frag) (mg : Str → Option Value) (x : Str) (vs : List Str) : Prop := ∃ a, mg x = some (.ref a) ∧ ∀ r H, RD K r H (.tup (vs.map D.str)) (.ref a)
theorem ktT_of {K : PySem.W.Frag} {mg : Str → Option Value} {x : Str} {vs : List Str} (hm : mg x = some (.ref (He.ga K x))) (h : tupN K x vs = true) : KtT K mg x vs := by
  refine ⟨_, hm, fun r H => ?_⟩
  unfold tupN at h
  cases q : K.lookup (He.ga K x) with
  | none => rw [q] at h; cases h
  | some o =>
    obtain ⟨oc, od, dt, osl⟩ := o
    rw [q] at h
    cases oc with
    | type c =>
      cases od with
      | none =>
        cases dt with
        | seq its n =>
          obtain ⟨h1, h2⟩ := He.ba (show (decide (c = "tuple") && (decide (its.size ≤ sizeLine) && He.relAll (vs.map V.str) its.toList)) = true from h)
          obtain ⟨h3, h4⟩ := He.ba h2
          have hc : c = "tuple" := of_decide_eq_true h1
          subst hc
          simp only [RD]
          exact ⟨_, vs.map V.str, rfl, ⟨.inr ⟨_, its, n, q, rfl, rfl, of_decide_eq_true h3, He.relAll_ok h4⟩, fun _ => .inr ⟨_, q, rfl, rfl⟩⟩, RDs.ofStrs _⟩
        | _ => cases h
      | some a => cases dt <;> cases h
    | _ => cases od <;> cases dt <;> cases h
theorem e_tupG {X : Cx} {EW : EWt} {x : Str} {vs : List Str} {pos : Pos} (hk : KtT X.K X.mg x vs) (hg : Gl X x) (hd : (x == ("__debug__" : Str)) = false := by decide) : E X EW (.Name x pos) (xC (.tup (vs.map D.str))) := by
  obtain ⟨a, hm, hr⟩ := hk
  exact e_glob (v := .ref a) hg hm rfl hr hd
end FW

set_option maxHeartbeats 4000000
namespace FW
open PySem PySem.Spec PyProof.Rows L2

/-! ### the head: defs that call themselves, tuples of texts -/
theorem cl_none {P : Program} {w : World} {K : PySem.W.Frag} {mg : Str → Option Value} {base : Heap} {k n : Nat} {x : Str} {st : Stmt} {f : Addr} {fd : FuncData} {ps : List Str} {F : Fn0} (D : FnP K x st f fd) (gm : mg x = some (.ref f)) (hF : ∀ ds st, F ds st = none)
    (b : ∀ (kV doc pm : Value) (an : Option Addr) (cdv ct : Value) (us : List Value), us.length = ps.length → bindArgs (PySem.W.fnOf x x (defArgs st) (defBody st) (defScope st) .none kV doc pm an cdv ct) ⟨us, []⟩ = pure (ps.zip us)) : ClG P w K mg base k x n F := by
  refine cl_of D gm ⟨fun vs H Q E h => ?_, fun A outer s H args us vs Q E _ _ _ _ _ h => ?_⟩ b
  · obtain ⟨r, st, ds, d, st', _, _, _, h, _⟩ := h
    rw [hF] at h; cases h
  · obtain ⟨r, st, ds, d, st', _, _, _, h, _⟩ := h
    rw [hF] at h; cases h
theorem tellF_none {F : Fn0} (hF : ∀ ds st, F ds st = none) : ∀ ds st, tellF F ds st = none := by
  intro ds st
  unfold tellF
  rw [dif_neg]
  rintro ⟨z, d1, st1, h, _⟩
  rw [hF] at h; cases h
abbrev Tbs := List (Str × List Str)
def obsT (n : Nat) (fa : List He.Fa) (fn : List He.DefD) (ts : Tbs) (g : Addr → Option Obj) : He.AlD × Bool := (obsL n fa fn g, ts.all fun t => tupN (frL g (He.asD g n)) t.1 t.2)
def SaysTb (ts : Tbs) (K : PySem.W.Frag) : Prop := (ts.all fun t => tupN K t.1 t.2) = true
theorem SaysTb.at {ts : Tbs} {K : PySem.W.Frag} (c : SaysTb ts K) (i : Nat) {t : Str × List Str} (h : ts[i]? = some t := by rfl) : tupN K t.1 t.2 = true := List.all_eq_true.mp c t (List.mem_of_getElem? h)
def hookT (n : Nat) (fa : List He.Fa) (fn : List He.DefD) (ts : Tbs) : PySem.W.Hook where
  α := He.AlD × Bool
  obs := fun s => obsT n fa fn ts s.heap.get?
  val := fun _ => (He.valD fn, true)
  says := fun _ h => ∃ K : PySem.W.Frag, K.In h ∧ He.SaysD fa fn K ∧ NoL K ∧ SaysTb ts K
  of := fun _ _ e => ⟨_, fun _ _ h => (frL_mem h).1, congrArg (fun z : He.AlD × Bool => z.1) e, fun _ _ h => (frL_mem h).2, congrArg (fun z : He.AlD × Bool => z.2) e⟩
  keeps := fun _ _ _ ⟨K, hK, c, n, t⟩ k => ⟨K, PySem.W.Frag.In.keeps hK k, c, n, t⟩
theorem obsT_eq {n : Nat} {fa : List He.Fa} {fn : List He.DefD} {ts : Tbs} {g : Addr → Option Obj} {s : Shared} (h : ∀ a, g a = s.heap.get? a) : obsT n fa fn ts g = (hookT n fa fn ts).obs s := by
  have e : g = s.heap.get? := funext h
  rw [e] <;> rfl
end FW

set_option maxHeartbeats 4000000
namespace FW
open PySem L2

/-! ### == and != with an empty list, an empty tuple: of data of any depth -/
structure DatE (x y : D) (st : Store) (z : PyData × PyData) : Prop where
  a : PD st x z.1
  b : PD st y z.2
  c : z.1.canLay0 = true
  d : z.2.canLay0 = true
  e : z.2.depth ≤ 1
open Classical in
noncomputable def oDatE (g : PyData → PyData → Bool) : F2 := fun x y st => if h : ∃ z, DatE x y st z then some (.bl (g (choose h).1 (choose h).2), st) else none
theorem oDatE_of {g : PyData → PyData → Bool} {x y : D} {st : Store} {p q : PyData} (hp : PD st x p) (hq : PD st y q) (c : p.canLay0 = true) (d : q.canLay0 = true) (e : q.depth ≤ 1) : oDatE g x y st = some (.bl (g p q), st) := by
  have h : ∃ z, DatE x y st z := ⟨(p, q), hp, hq, c, d, e⟩
  unfold oDatE
  rw [dif_pos h]
  have s := Classical.choose_spec h
  have e1 := s.a.det hp
  have e2 := s.b.det hq
  generalize Classical.choose h = c at e1 e2
  rw [e1, e2]
theorem oDatE_some {g : PyData → PyData → Bool} {x y z : D} {st st' : Store} (h : oDatE g x y st = some (z, st')) : ∃ p q, PD st x p ∧ PD st y q ∧ p.canLay0 = true ∧ q.canLay0 = true ∧ q.depth ≤ 1 ∧ z = .bl (g p q) ∧ st' = st := by
  unfold oDatE at h
  split at h
  · rename_i hh
    cases h
    have s := Classical.choose_spec hh
    exact ⟨_, _, s.a, s.b, s.c, s.d, s.e, rfl, rfl⟩
  · cases h
noncomputable abbrev oEqE : F2 := oDatE PyData.eqv
noncomputable abbrev oNeE : F2 := oDatE fun p q => !PyData.eqv p q
def rDatE (K : PySem.W.Frag) (g : PyData → PyData → Bool) : R2 := fun x y H Q => ∃ d e, Dp K H x d ∧ Dp K H y e ∧ d.canLay0 = true ∧ e.canLay0 = true ∧ e.depth ≤ 1 ∧ Q (.bl (g d e)) H
section
variable {X : Cx}
theorem op_eqE (hu : X.A.units + 64 < cLine) : OpR X (compareOp .Eq) (rDatE X.K PyData.eqv) := by
  intro pins s σ H x y v u Q I rx ry h
  obtain ⟨d, e, hd, he, sd, se, sz, q⟩ := h
  obtain ⟨as, r1⟩ := Dp.reads I d x v hd rx
  obtain ⟨bs, r2⟩ := Dp.reads I e y u he ry
  exact SeqAt.compareEq_reads r1 r2 sd se (by have := Nat.min_le_right d.depth e.depth; omega) ⟨.bl _, H, I, rfl, q⟩
theorem op_neE (hu : X.A.units + 64 < cLine) : OpR X (compareOp .NotEq) (rDatE X.K fun p q => !PyData.eqv p q) := by
  intro pins s σ H x y v u Q I rx ry h
  obtain ⟨d, e, hd, he, sd, se, sz, q⟩ := h
  obtain ⟨as, r1⟩ := Dp.reads I d x v hd rx
  obtain ⟨bs, r2⟩ := Dp.reads I e y u he ry
  exact SeqAt.compareNe_reads r1 r2 sd se (by have := Nat.min_le_right d.depth e.depth; omega) ⟨.bl _, H, I, rfl, q⟩
end
theorem oDatE_ok {K : PySem.W.Frag} {g : PyData → PyData → Bool} : OpS K (rDatE K g) (oDatE g) := by
  intro r H st d c x y z st' Q S hd hc h P
  obtain ⟨p, q, hp, hq, sp, sq, sz, rfl, rfl⟩ := oDatE_some h
  exact ⟨p, q, hp.dp S hd, hq.dp S hc, sp, sq, sz, P.bl S⟩
theorem ev_eqE {ds : List D} {ps : List PyData} {st : Store} (h : PDs st ds ps) (c : PyData.canLayAll0 ps = true) : oEqE (.lst ds) (.lst []) st = some (.bl ds.isEmpty, st) := by
  show oDatE PyData.eqv _ _ _ = _
  rw [oDatE_of (.lst h) (.lst .nil) (by simpa [PyData.canLay0] using c) (by simp [PyData.canLay0, PyData.canLayAll0]) (by simp [PyData.depth, PyData.depthAll])]
  cases h <;> simp [PyData.eqv, PyData.eqvAll]
theorem ev_neE {ds : List D} {ps : List PyData} {st : Store} (h : PDs st ds ps) (c : PyData.canLayAll0 ps = true) : oNeE (.lst ds) (.lst []) st = some (.bl (!ds.isEmpty), st) := by
  show oDatE (fun p q => !PyData.eqv p q) _ _ _ = _
  rw [oDatE_of (.lst h) (.lst .nil) (by simpa [PyData.canLay0] using c) (by simp [PyData.canLay0, PyData.canLayAll0]) (by simp [PyData.depth, PyData.depthAll])]
  cases h <;> simp [PyData.eqv, PyData.eqvAll]
theorem ev_eqET {ds : List D} {ps : List PyData} {st : Store} (h : PDs st ds ps) (c : PyData.canLayAll0 ps = true) : oEqE (.tup ds) (.tup []) st = some (.bl ds.isEmpty, st) := by
  show oDatE PyData.eqv _ _ _ = _
  rw [oDatE_of (.tup h) (.tup .nil) (by simpa [PyData.canLay0] using c) (by simp [PyData.canLay0, PyData.canLayAll0]) (by simp [PyData.depth, PyData.depthAll])]
  cases h <;> simp [PyData.eqv, PyData.eqvAll]
theorem ev_neER {n : Nat} {ds : List D} {ps : List PyData} {st : Store} (e : st[n]? = some (.lst ds)) (h : PDs st ds ps) (c : PyData.canLayAll0 ps = true) : oNeE (.ref n) (.lst []) st = some (.bl (!ds.isEmpty), st) := by
  show oDatE (fun p q => !PyData.eqv p q) _ _ _ = _
  rw [oDatE_of (.ref e h) (.lst .nil) (by simpa [PyData.canLay0] using c) (by simp [PyData.canLay0, PyData.canLayAll0]) (by simp [PyData.depth, PyData.depthAll])]
  cases h <;> simp [PyData.eqv, PyData.eqvAll]
end FW

set_option maxHeartbeats 4000000
namespace FW
open PySem PySem.Spec L2

/-! ### isinstance(x, T), T a built-in type -/
def tyN (d : D) (st : Store) : Option String := match d with
  | .non => some "NoneType"
  | .bl _ => some "bool"
  | .int _ => some "int"
  | .str _ => some "str"
  | .tup _ => some "tuple"
  | .ztp _ => some "tuple"
  | .lst _ => some "list"
  | .dct _ _ => some "dict"
  | .ref n => match st[n]? with
    | some (.lst _) => some "list"
    | some (.flst _) => some "list"
    | some (.dct _ _) => some "dict"
    | some (.fdct _ _) => some "dict"
    | none => none
  | .cst _ => none
  | .oth _ => none
section
variable {K : PySem.W.Frag} {r : Ad} {H : Hp} {st : Store}
theorem sqT_ty {a : Addr} {xs : List V} (h : SqT K H a xs) : TyX K H (.ref a) (.type "tuple") := by
  rcases h with (h | ⟨o, h⟩) | h
  · exact .base (.tup h)
  · exact .fTuple h
  · obtain ⟨o, _, _, e, c, _⟩ := h
    exact .kTuple e c
theorem tyN_ok {d : D} {v : V} {t : String} (S : Sim K r H st) (h : RD K r H d v) (e : tyN d st = some t) : TyX K H v (.type t) := by
  cases d with
  | non => cases e; simp only [RD] at h; subst h; exact .base .non
  | bl b => cases e; simp only [RD] at h; subst h; exact .base (.bl b)
  | int i => cases e; simp only [RD] at h; subst h; exact .base (.int i)
  | str x => cases e; simp only [RD] at h; subst h; exact .base (.str x)
  | tup ds => cases e; simp only [RD] at h; obtain ⟨a, vs, rfl, q, _⟩ := h; exact sqT_ty q.1
  | ztp ds => cases e; simp only [RD] at h; obtain ⟨a, vs, rfl, q, _⟩ := h; exact sqT_ty q.1
  | lst ds => cases e; simp only [RD] at h; obtain ⟨a, vs, rfl, q, _⟩ := h; exact .base (.lst q)
  | dct ks ds =>
    cases e
    simp only [RD] at h
    obtain ⟨a, kvs, rfl, q, _⟩ := h
    rcases q with q | ⟨o, q⟩
    · exact .base (.dK q)
    · exact .fDict q
  | ref n =>
    simp only [RD] at h
    obtain ⟨a, ea, rfl⟩ := h
    cases q : st[n]? with
    | none => simp only [tyN, q] at e; cases e
    | some o =>
      have ro := S.ob n a o ea q
      cases o with
      | lst ds => simp only [tyN, q] at e; cases e; obtain ⟨vs, e2, _⟩ := ro; exact .base (.lst e2)
      | flst ds => simp only [tyN, q] at e; cases e; obtain ⟨ob, vs, e2, _⟩ := ro; exact .base (.frz e2)
      | dct ks ds => simp only [tyN, q] at e; cases e; obtain ⟨kvs, e2, _⟩ := ro; exact .base (.dK e2)
      | fdct ks ds =>
        simp only [tyN, q] at e
        cases e
        obtain ⟨kvs, e2 | ⟨o, e2⟩, _⟩ := ro
        · exact .base (.dK e2)
        · exact .fDict e2
  | cst c => cases e
  | oth x => cases e
end
def oIsi : Fn0 := fun as st => match as with
  | [d, .cst (.ty T)] => match tyN d st with
    | some t => match kitB t T with
      | some b => some (.bl b, st)
      | none => none
    | none => none
  | _ => none
theorem oIsi_ok {K : PySem.W.Frag} : CallS K (rIsi K) oIsi := by
  intro r H st ds vs z st' Q S hs h P
  unfold oIsi at h
  split at h
  · rename_i d T
    obtain ⟨v, c, rfl, hv, hc⟩ := hs.two
    simp only [RD, cV] at hc
    subst hc
    split at h
    · rename_i t e
      split at h
      · rename_i b e2
        cases h
        exact ⟨v, .ty T, .type t, .type T, b, rfl, .ty T, tyN_ok S hv e, kit_ty e2, P.bl S⟩
      · cases h
    · cases h
  · cases h
/-- a built-in type's name -/
theorem e_tyN {X : Cx} {EW : EWt} {x : Str} {T : String} {p : Pos} (hg : Gl X x) (hm : X.mg x = none) (hv : bootBuiltins x = some (.type T)) (hn : x ≠ "__name__" := by decide) (hd : (x == ("__debug__" : Str)) = false := by decide) : E X EW (.Name x p) (xC (.cst (.ty T))) := by
  refine PE.weak (pe_bltn hg hm hv (show RelV (.ty T) (.type T) from rfl) hn hd) ?_
  rintro σ H Q ⟨r, e, st, out, st', S, hE, h, P⟩
  cases h
  exact P r H (.ty T) S (Ext.refl _ _ _) (by simp only [RD, cV])
theorem kitB_eq : ∀ t ∈ (["NoneType", "bool", "int", "str", "tuple", "list", "dict"] : List String), ∀ T ∈ (["bool", "int", "str", "tuple", "list", "dict"] : List String), kitB t T = some (t == T || (t == "bool" && T == "int")) := by decide +kernel
end FW

set_option maxHeartbeats 4000000
namespace FW
open PySem PySem.Spec L2
open PyProof.Rows (envOfC)

/-! ### exceptions of the program's own classes -/
/-- the fields of an exception, in its dict -/
def FlR (K : PySem.W.Frag) (r : Ad) (H : Hp) (fl : List (Str × D)) (fs : List (Str × V)) : Prop := ∀ f d, fl.lookup f = some d → ∃ v, fs.lookup f = some v ∧ RD K r H d v
def XF (K : PySem.W.Frag) (r : Ad) (H : Hp) (fl : List (Str × D)) (dd : Option Addr) : Prop := (fl = [] ∧ dd = none) ∨ ∃ d fs, dd = some d ∧ H d = some (.xd fs) ∧ FlR K r H fl fs
section
variable {K : PySem.W.Frag} {r r' : Ad} {H H' : Hp} {st : Store}
theorem FlR.mono {fl : List (Str × D)} {fs : List (Str × V)} (h : FlR K r H fl fs) (x : Ext K r H r' H') : FlR K r' H' fl fs := fun f d e => by
  obtain ⟨v, h1, h2⟩ := h f d e
  exact ⟨v, h1, h2.mono x⟩
theorem Sim.noxd (S : Sim K r H st) {a : Addr} {fs : List (Str × V)} (h : H a = some (.xd fs)) : a ∉ r.r := fun m => by
  obtain ⟨i, e⟩ := List.getElem?_of_mem m
  obtain ⟨o, _, q⟩ := S.ex e
  cases o with
  | lst ds => obtain ⟨vs, e, _⟩ := q; rw [h] at e; cases e
  | flst ds => obtain ⟨o, vs, e, _⟩ := q; rw [h] at e; cases e
  | dct ks ds => obtain ⟨kvs, e, _⟩ := q; rw [h] at e; cases e
  | fdct ks ds => obtain ⟨kvs, e | ⟨o, e⟩, _⟩ := q <;> (rw [h] at e; cases e)
theorem XF.mono {fl : List (Str × D)} {dd : Option Addr} (S : Sim K r H st) (h : XF K r H fl dd) (x : Ext K r H r' H') : XF K r' H' fl dd := by
  rcases h with h | ⟨d, fs, e, h1, h2⟩
  · exact .inl h
  · exact .inr ⟨d, fs, e, (x.keep d _ h1 (S.noxd h1)).nd (fun _ z => by cases z), h2.mono x⟩
end
/-- what a def wants of an exception -/
def EwE (K : PySem.W.Frag) (mg : Str → Option Value) (E : XK) : EWt := fun x _ r H => ∀ C dd, mg x.cls = some (.ref C) → XF K r H x.flds dd → E (.ref C) dd H
def XOk (K : PySem.W.Frag) (mg : Str → Option Value) (r : Ad) (H : Hp) (E : XK) (x : Exn) (st' : Store) : Prop := ∀ r' H' C dd, Sim K r' H' st' → Ext K r H r' H' → mg x.cls = some (.ref C) → XF K r' H' x.flds dd → E (.ref C) dd H'
def PostX (K : PySem.W.Frag) (mg : Str → Option Value) (r : Ad) (H : Hp) (Q : VK) (E : XK) (st' : Store) : Res D → Prop
  | .ok d => Ok K r H Q d st'
  | .exc x => XOk K mg r H E x st'
/-- what a def is worth that may raise -/
def spX (K : PySem.W.Frag) (mg : Str → Option Value) (n : Nat) (F : Fn) : Sp := fun vs H Q E => ∃ r st ds out st', Sim K r H st ∧ RDs K r H ds vs ∧ ds.length = n ∧ F ds st = some (out, st') ∧ PostX K mg r H Q E st' out
/-- a body's worth -/
def runX (n : Nat) (m : MS) : Fn := fun ds st => match m (env0 n ds) st with
  | some (.rt d, st') => some (.ok d, st')
  | some (.nx _, st') => some (.ok .non, st')
  | some (.exc x _, st') => some (.exc x, st')
  | _ => none
section
variable {P : Program} {w : World} {K : PySem.W.Frag} {mg : Str → Option Value} {base : Heap}
theorem fn_okX {x qual : Str} {st : Stmt} {f : Addr} {fd : FuncData} {N ps : List Str} {k : Nat} {m : MS} (F : Fun K x qual st f fd) (S : FnScope N ps (defScope st))
    (hb : ∀ (cdv : Value) (A : Around) (outer : List PySem.Env) (s : Shared) (H : Hp) (E : XK), Room k (A.deeper (envOfC qual (defScope st) s.heap.objs.size f cdv)) → A.guards = some [] → Ss (cxOf (L2.CX P w) P w K mg base N qual (defScope st) f cdv A outer s H E) (EwE K mg E) (defBody st) m) :
    FnG P w K mg base (L2.CX P w) (k + 1) f fd ps (spX K mg ps.length (runX N.length m)) := by
  refine FnG.of F S (fun vs H Q E h => ?_) fun cdv A outer s H vs Q E hr hgu h => ⟨_, hb cdv A outer s H E hr hgu, ?_⟩
  · obtain ⟨r, st, ds, d, st', _, h2, h3, _⟩ := h
    rw [← h2.length, h3]
  · obtain ⟨r, st, ds, d, st', h1, h2, h3, h4, h5⟩ := h
    unfold runX at h4
    cases q : m (env0 N.length ds) st with
    | none => rw [q] at h4; cases h4
    | some p =>
      obtain ⟨o, st1⟩ := p
      rw [q] at h4
      refine ⟨r, env0 N.length ds, st, o, st1, h1, RE.start h2, q, ?_⟩
      cases o with
      | rt d' => cases h4; exact h5
      | nx e => cases h4; exact fun r' H' σ' S' x' _ => h5 r' H' .non S' x' (by simp only [RD])
      | exc x e => cases h4; exact fun r' H' σ' S' x' _ C dd e1 e2 => h5 r' H' C dd S' x' e1 e2
      | _ => cases h4
end
/-- a raising def's worth, told as another function -/
theorem fn_impX {P : Program} {w : World} {K : PySem.W.Frag} {mg : Str → Option Value} {base : Heap} {f : Addr} {fd : FuncData} {ps : List Str} {k n : Nat} {F G : Fn} {CX : CXT} (h : FnG P w K mg base CX k f fd ps (spX K mg n F))
    (w' : ∀ ds st out st', Lts st.length ds → Wf st → ds.length = n → G ds st = some (out, st') → ∃ out1 st1, F ds st = some (out1, st1) ∧ match out1, out with
      | .ok d1, .ok d => Cut st1 st.length st' ∧ Fz st1 st.length d1 d
      | .exc x, .exc y => x = y ∧ st1 = st'
      | _, _ => False) :
    FnG P w K mg base CX k f fd ps (spX K mg n G) := h.imp fun vs H Q E ⟨r, st, ds, out, st', h1, h2, h3, h4, h5⟩ => by
  have lt := h2.lt
  rw [h1.len] at lt
  obtain ⟨out1, st1, h6, h7⟩ := w' ds st out st' lt h1.wf h3 h4
  refine ⟨r, st, ds, out1, st1, h1, h2, h3, h6, ?_⟩
  cases out1 with
  | ok d1 => cases out with
    | ok d => exact Ok.cut h1 h5 h7.1 h7.2
    | exc y => exact h7.elim
  | exc x => cases out with
    | ok d => exact h7.elim
    | exc y =>
      obtain ⟨rfl, rfl⟩ := h7
      exact h5

/-! ### calls of defs that may raise -/
/-- exceptions that are wanted so are taken -/
def HX (X : Cx) (EW : EWt) : Prop := ∃ W : WX, Takes X W ∧ ∀ (x : Exn) (σ : L2.St) (r : Ad) (H : Hp) (C : Addr) (dd : Option Addr), EW x σ r H → X.mg x.cls = some (.ref C) → XF X.K r H x.flds dd → W (.ref C) dd σ H
theorem hx_def {P : Program} {w : World} {K : PySem.W.Frag} {mg : Str → Option Value} {base : Heap} {N : List Str} {qual : Str} {sc : Scope} {f : Addr} {cdv : Value} {A : Around} {outer : List PySem.Env} {s : Shared} {H : Hp} {E : XK} : HX (cxOf (L2.CX P w) P w K mg base N qual sc f cdv A outer s H E) (EwE K mg E) :=
  ⟨fun cls d _ H => E cls d H, takes_of rfl rfl rfl rfl, fun x _ r H C dd h e1 e2 => h C dd e1 e2⟩
def ClX (X : Cx) (k : Nat) (x : Str) (n : Nat) (F : Fn) : Prop := ∃ (f : Addr) (fd : FuncData) (ps : List Str), FnG X.prog X.w X.K X.mg X.base (L2.CX X.prog X.w) k f fd ps (spX X.K X.mg n F) ∧ X.mg x = some (.ref f) ∧ PySem.W.keepIn X.K (.ref f) = true ∧ Binds X.K fd ps []
def xClX (n : Nat) (F : Fn) (as : M (List D)) : M D := xbnd as fun ds _ st => if ds.length = n then F ds st else none
section
variable {X : Cx} {EW : EWt}
theorem e_callX {k j n : Nat} {x : Str} {p pos : Pos} {a : Expr} {es : List Expr} {F : Fn} {ms : M (List D)} (c : ClX X k x n F) (hr : Room j X.A) (hgu : X.A.guards = some []) (hk : k ≤ j) (hg : Gl X x) (hx : HX X EW) (ha : As X EW (a :: es) ms) (hdb : (x == ("__debug__" : Str)) = false := by decide)
    (he : starEach (a :: es) X.env = (false, eval a X.env) :: starEach es X.env := by rfl) (hpl : (backTo pos (starEach es X.env)).any (·.1) = false := by rfl) : E X EW (.Call (.Name x p) (a :: es) [] pos) (xClX n F ms) := by
  obtain ⟨f, fd, ps, Fk, hm, hkp, hb⟩ := c
  obtain ⟨W, tk, hw⟩ := hx
  refine PE.weak (pe_callG (E := fun σ cls dd H => W cls dd σ H) Fk (hr.mono hk) hgu hg hm hkp hb (fun _ _ _ _ _ _ I c => tk _ _ (XE.of_call I (fun _ _ _ h => h) c)) ha hdb he hpl) ?_
  rintro σ H Q ⟨r, e, st, out, st', S, hE, h, P⟩
  refine bnd_step S hE h P fun r1 H1 vs ds st1 S1 x1 hE1 hd h1 P1 => ?_
  dsimp only at h1
  split at h1
  · rename_i hl
    refine ⟨r1, st1, ds, out, st', S1, hd, hl, h1, ?_⟩
    cases out with
    | ok d => exact P1
    | exc x => exact fun r' H' C dd S' x' e1 e2 => hw x σ r' H' C dd (P1 r' H' S' x') e1 e2
  · cases h1
end
/-! ### raise -/
/-- the heap, or one with a new tuple -/
def Jk (H H2 : Hp) : Prop := H2 = H ∨ ∃ (p : Addr) (xs : List V), H p = none ∧ H2 = upd H p (.tup xs)
/-- an expression x(..) makes an exception of the class, its arguments as fields -/
def RaC (X : Cx) (x : Str) (fs : List Str) : Prop := ∃ C : Addr, X.mg x = some (.ref C) ∧ ∀ (p pos : Pos) (a : Expr) (es : List Expr) (EW : EWt) (ms : M (List D)), Gl X x → As X EW (a :: es) ms → (x == ("__debug__" : Str)) = false →
  starEach (a :: es) X.env = (false, eval a X.env) :: starEach es X.env → (backTo pos (starEach es X.env)).any (·.1) = false →
  PMk X (.Call (.Name x p) (a :: es) [] pos) (fun σ H Q => tA X.K EW ms σ H fun vs H1 => vs.length = fs.length ∧ ∀ H2 dx, Jk H1 H2 → H2 dx = none → Q (.ref C) (some dx) (upd H2 dx (.xd (fs.zip vs).reverse)))
def sRaise (x : Str) (fs : List Str) (as : M (List D)) : MS := fun e st => bndS (as e st) e fun ds st1 => if ds.length = fs.length then some (.exc ⟨x, fs.zip ds⟩ e, st1) else none
theorem zip_fl {K : PySem.W.Frag} {r : Ad} {H : Hp} : ∀ {fs : List Str} {ds : List D} {vs : List V}, RDs K r H ds vs → FlR K r H (fs.zip ds) (fs.zip vs)
  | [], _, _, _ => fun f d e => by simp at e
  | _ :: _, [], _, h => fun f d e => by simp at e
  | f0 :: fs, d0 :: ds, _, h => fun f d e => by
    simp only [RDs] at h
    obtain ⟨v, r', rfl, h1, h2⟩ := h
    simp only [List.zip_cons_cons, List.lookup_cons] at e ⊢
    split at e
    · cases e; exact ⟨v, rfl, h1⟩
    · exact zip_fl h2 f d e
theorem look_rev {α : Type} {f : Str} {v : α} : ∀ {l : List (Str × α)}, (l.map (·.1)).Nodup → l.lookup f = some v → l.reverse.lookup f = some v
  | [], _, e => by simp at e
  | (g, u) :: l, nd, e => by
    simp only [List.map_cons, List.nodup_cons] at nd
    rw [List.reverse_cons, List.lookup_append]
    simp only [List.lookup_cons] at e
    split at e
    · rename_i h
      have h : f = g := by simpa using h
      subst h
      cases e
      have : l.reverse.lookup f = none := by
        cases q : l.reverse.lookup f with
        | none => rfl
        | some z =>
          exfalso
          refine nd.1 ?_
          have : ∀ {l : List (Str × α)}, l.lookup f = some z → f ∈ l.map (·.1) := by
            intro l
            induction l with
            | nil => intro h; simp at h
            | cons p l ih =>
              intro h
              obtain ⟨g, u⟩ := p
              simp only [List.lookup_cons] at h
              split at h
              · rename_i h2
                have h2 : f = g := by simpa using h2
                simp [h2]
              · have := ih h
                rw [List.map_cons]
                exact List.mem_cons_of_mem _ this
          have m := this q
          rw [List.map_reverse] at m
          exact List.mem_reverse.mp m
      rw [this]
      simp
    · rw [look_rev nd.2 e]
      rfl
section
variable {X : Cx} {EW : EWt}
theorem s_raise {x : Str} {p pos pos' : Pos} {a : Expr} {es : List Expr} {fs : List Str} {ms : M (List D)} (hc : X.calm = true) (hx : HX X EW) (rc : RaC X x fs) (nd : fs.Nodup) (hg : Gl X x) (ha : As X EW (a :: es) ms) (hdb : (x == ("__debug__" : Str)) = false := by decide)
    (he : starEach (a :: es) X.env = (false, eval a X.env) :: starEach es X.env := by rfl) (hpl : (backTo pos (starEach es X.env)).any (·.1) = false := by rfl) : S_ X EW (.Raise (some (.Call (.Name x p) (a :: es) [] pos)) none pos') (sRaise x fs ms) := by
  obtain ⟨W, tk, hw⟩ := hx
  obtain ⟨C, gC, mk⟩ := rc
  refine PS.weak (ps_raise hc tk (mk p pos a es EW ms hg ha hdb he hpl)) ?_
  rintro D σ H ⟨r, e, st, out, st', S, hE, h, P⟩
  refine bndS_step S hE h P fun r1 H1 vs ds st1 S1 x1 hE1 hd h1 P1 => ?_
  try dsimp only at h1
  split at h1
  · rename_i hl
    cases h1
    have hlv : vs.length = fs.length := by rw [← hd.length, hl]
    refine ⟨hlv, fun H2 dx jk hn => ?_⟩
    obtain ⟨S2, x2⟩ : Sim X.K r1 H2 st' ∧ Ext X.K r1 H1 r1 H2 := by
      rcases jk with rfl | ⟨p, xs, hp, rfl⟩
      · exact ⟨S1, Ext.refl _ _ _⟩
      · exact S1.side hp
    obtain ⟨S3, x3⟩ := S2.side (o := .xd (fs.zip vs).reverse) hn
    have x4 := x2.trans' S1 S2 x3
    refine hw _ σ r1 _ C (some dx) (P1 r1 _ σ S3 x4 (hE1.mono x4)) gC (.inr ⟨dx, _, rfl, upd_same, fun f d e => ?_⟩)
    obtain ⟨v, h2, h3⟩ := zip_fl (fs := fs) hd f d e
    refine ⟨v, look_rev ?_ h2, h3.mono x4⟩
    rw [List.map_fst_zip (by omega)]
    exact nd
  · cases h1
end
end FW

set_option maxHeartbeats 4000000
namespace FW
open PySem PySem.Spec L2
open PyProof.Rows (envOfC)

/-! ### own classes of exceptions: their __init__ -/
/-- the class whose __init__ is ValueError's own -/
structure SeC (K : PySem.W.Frag) (S : Addr) : Prop where
  rd : PySem.W.readsIn K S (.type "type") = true
  ga : PySem.W.specialIn K (.ref S) "__getattribute__" = some (some (.builtin "type.__getattribute__"))
  at_ : PySem.W.findCls K (.ref S) (.type "type") "__init__" = some (.val (.builtin "ValueError.__init__"))
section
variable {X : Cx} {o e : Expr} {es : List Expr} {to te : TE} {ta : TA} {f : Str} {p p' p1 p2 pos : Pos}
theorem pe_seinit {x : Str} {S : Addr} {pl : Sem Bool} (hg : Gl X x) (hm : X.mg x = some (.ref S)) (T : SeC X.K S) (ha : PA X (e :: es) ta) (hdb : (x == ("__debug__" : Str)) = false := by decide)
    (hc : eval (.Call (.Attribute (.Name x p1) "__init__" p2) (e :: es) [] pos) X.env = (do
      let ov ← eval (.Name x p1) X.env
      standAt p2.atName
      let (f, first) ← holding [ov] (getMethod ov "__init__" pl)
      callWith pos f first (backTo pos (starEach (e :: es) X.env)) (backToKw pos (keywordEach [] X.env))) := by rfl)
    (he : starEach (e :: es) X.env = (false, eval e X.env) :: starEach es X.env := by rfl) (hpl : (backTo pos (starEach es X.env)).any (·.1) = false := by rfl) :
    PE X (.Call (.Attribute (.Name x p1) "__init__" p2) (e :: es) [] pos) (tVeI X.K ta) := by
  constructor
  intro pins s σ H Q I h
  refine PySem.W.methodCall_KW (ld_glob I hg hm (PySem.W.method_cls I.kIn T.ga (PySem.W.cls_value I.kIn T.rd T.at_ (by decide +kernel) ?_)) hdb) hc
  show wpAny _ _ (callWith pos (Value.builtin "ValueError.__init__") [] (backTo pos (starEach (e :: es) X.env)) []) _ _ _
  refine PyProof.Rows.callWith_method1 (thn (ha.run pos pins _ σ H _ (I.tok _) h) ?_) he hpl
  rintro us s1 ⟨vs, H1, I1, r1, a, C, ws, rfl, hl, Tc, ea, q⟩
  cases r1 with
  | cons ra rw' =>
    cases ra
    refine oinit_ok Tc I1 ea ?_ fun s' J => ⟨.non, H1, J, rfl, q⟩
    have := Paired.length rw'
    rw [sizeLine_eq]
    omega
/-- o.f = .. of an exception that is being made -/
def gOst (K : PySem.W.Frag) (f : Str) (to : TE) : TG := fun v σ H Q => to σ H fun x H2 => ∃ a C : Addr, x = .ref a ∧ OexC K C ∧ PySem.W.findIn K (.ref C) f = some none ∧
  ((H2 a = some (exo a C none) ∧ ∀ dx, H2 dx = none → dx ≠ a → Q σ (upd (upd H2 dx (exd dx [(f, v)])) a (exo a C (some dx)))) ∨
    ∃ (dx : Addr) (fs : List (Str × V)), H2 a = some (exo a C (some dx)) ∧ H2 dx = some (exd dx fs) ∧ fs.length ≤ 900 ∧ Q σ (upd H2 dx (exd dx ((f, v) :: fs))))
theorem pg_ost (ho : PE X o to) : PG X (.Attribute o f pos) (gOst X.K f to) := by
  constructor
  intro pins s σ H v u Q I r h
  rw [assign_Attribute]
  refine wpAny_bind (wpAny_holding (thn (ho.run pins s σ H _ I h) ?_))
  rintro ov s1 ⟨x, H1, I1, r1, a, C, rfl, T, hno, q⟩
  cases r1
  refine wpAny_bind (wpAny_standAt (wpAny_bind (wpAny_holding ?_)))
  rcases q with ⟨ea, q⟩ | ⟨dx, fs, ea, ed, hl, q⟩
  · exact ost_new T I1 ea hno r fun dx s' n ne J => wpAny_release ⟨σ, _, J, q dx n ne⟩
  · exact ost_old T I1 ea ed hl hno r fun s' J => wpAny_release ⟨σ, _, J, q⟩
end
/-- what an __init__ of such a class does -/
def spI (K : PySem.W.Frag) (fs : List Str) : Sp := fun vs H Q _ => ∃ (a C : Addr) (ws : List V), vs = .ref a :: ws ∧ ws.length = fs.length ∧ OexC K C ∧ (∀ f ∈ fs, PySem.W.findIn K (.ref C) f = some none) ∧ H a = some (exo a C none) ∧
  ∀ H2 dx, Jk H H2 → H2 dx = none → dx ≠ a → Q .non (upd (upd H2 dx (exd dx (fs.zip ws).reverse)) a (exo a C (some dx)))
/-- from its __init__'s promise -/
theorem rac_of {X : Cx} {x : Str} {C fI : Addr} {fs : List Str} {k : Nat} {fd : FuncData} {ps : List Str} (hne : fs ≠ []) (hlf : fs.length ≤ 900) (gC : X.mg x = some (.ref C)) (T : OexC X.K C) (no : ∀ f ∈ fs, PySem.W.findIn X.K (.ref C) f = some none) (iC : PySem.W.findIn X.K (.ref C) "__init__" = some (some (.ref fI))) (tI : PySem.W.typeIn X.K (.ref fI) = some (.type "function"))
    (F1 : FnOk X.prog X.w X.K X.mg X.base CX0 k fI fd ps (spI X.K fs)) (hr : Room (k + 1) X.A) (hb : Binds X.K fd ps []) : RaC X x fs := by
  refine ⟨C, gC, fun p pos a es EW ms hg ha hdb he hpl => ?_⟩
  have mk := pmk_oex (p := p) (pos := pos) (dvs := []) T iC tI F1 hr hb .nil (fun _ _ _ _ _ _ _ z => z.elim) hg gC ha hdb he hpl
  intro pins s σ H Q I h
  refine mk pins s σ H Q I (tX.mono h fun vs H1 hh => ?_)
  obtain ⟨hl, q⟩ := hh
  refine ⟨by omega, fun a hn => ?_⟩
  rw [List.append_nil]
  refine ⟨a, C, vs, rfl, hl, T, no, upd_same, fun H2 dx jk hd ne => ⟨rfl, dx, (fs.zip vs).reverse, upd_same, ?_, ?_, ?_⟩⟩
  · rw [upd_ne ne, upd_same]
  · rcases jk with rfl | ⟨p, xs, hp, rfl⟩
    · rwa [upd_ne ne] at hd
    · by_cases e : dx = p
      · rw [e]
        by_cases e2 : p = a
        · rw [e2, upd_same] at hp; cases hp
        · rwa [upd_ne e2] at hp
      · rwa [upd_ne e, upd_ne ne] at hd
  · obtain ⟨H3, jk3, hd3, e3⟩ : ∃ H3, Jk H1 H3 ∧ H3 dx = none ∧ ∀ b, b ≠ a → H2 b = H3 b ∧ H3 a = none := by
      rcases jk with rfl | ⟨p, xs, hp, rfl⟩
      · exact ⟨H1, .inl rfl, by rwa [upd_ne ne] at hd, fun b hb => ⟨upd_ne hb, hn⟩⟩
      · have pa : p ≠ a := fun z => by rw [z, upd_same] at hp; cases hp
        have hp1 : H1 p = none := by rwa [upd_ne pa] at hp
        refine ⟨upd H1 p (.tup xs), .inr ⟨p, xs, hp1, rfl⟩, ?_, fun b hb => ⟨?_, by rw [upd_ne (Ne.symm pa)]; exact hn⟩⟩
        · by_cases e : dx = p
          · subst e; rw [upd_same] at hd; cases hd
          · rw [upd_ne e] at hd ⊢
            rwa [upd_ne ne] at hd
        · by_cases e : b = p
          · subst e; rw [upd_same, upd_same]
          · rw [upd_ne e, upd_ne e, upd_ne hb]
    have e : upd (del (upd (upd H2 dx (exd dx (fs.zip vs).reverse)) a (exo a C (some dx))) a) dx (.xd (fs.zip vs).reverse) = upd H3 dx (.xd (fs.zip vs).reverse) := by
      funext b
      by_cases hb : b = dx
      · subst hb; rw [upd_same, upd_same]
      · rw [upd_ne hb, upd_ne hb]
        by_cases ha : b = a
        · subst ha; rw [del_same, (e3 dx ne).2]
        · rw [del_ne ha, upd_ne ha, upd_ne hb]
          exact (e3 b ha).1
    rw [e]
    exact q H3 dx jk3 hd3
/-! ### the readings of such an __init__ -/
section
variable {K : PySem.W.Frag} {vs : List V} {H : Hp} {Q : VK} {E : XK}
theorem spI_len {fs : List Str} (h : spI K fs vs H Q E) : vs.length = fs.length + 1 := by
  obtain ⟨a, C, ws, rfl, hl, _⟩ := h
  simp [hl]
theorem ini1 {f : Str} {D : Ends} (hD : D.nx = fun _ H' => Q .non H') (h : spI K [f] vs H Q E) : tSeq (tDrop (tVeI K (tCons (tVar 0) (tCons (tVar 1) tNil)))) (tAsg (tVar 1) (gOst K f (tVar 0))) D (L2.start ["self", "x"] vs) H := by
  obtain ⟨a, C, ws, rfl, hl, T, no, ea, q⟩ := h
  obtain ⟨v, rfl⟩ : ∃ v, ws = [v] := by
    match ws, hl with
    | [v], _ => exact ⟨v, rfl⟩
  refine ⟨.ref a, rfl, v, rfl, a, C, [v], rfl, by simp, T, ea, v, rfl, .ref a, rfl, a, C, rfl, T, no f List.mem_cons_self, .inl ⟨ea, fun dx hn ne => ?_⟩⟩
  show D.nx _ _
  rw [hD]
  exact q H dx (.inl rfl) hn ne
theorem ini2 {f g : Str} {D : Ends} (hD : D.nx = fun _ H' => Q .non H') (h : spI K [f, g] vs H Q E) : tSeq (tDrop (tVeI K (tCons (tVar 0) (tCons (tVar 1) (tCons (tVar 2) tNil))))) (tAsg (tTup (tCons (tVar 1) (tCons (tVar 2) tNil))) (gTup K 2 (gCons (gOst K f (tVar 0)) (gCons (gOst K g (tVar 0)) gNil)))) D (L2.start ["self", "x", "y"] vs) H := by
  obtain ⟨a, C, ws, rfl, hl, T, no, ea, q⟩ := h
  obtain ⟨v, w, rfl⟩ : ∃ v w, ws = [v, w] := by
    match ws, hl with
    | [v, w], _ => exact ⟨v, w, rfl⟩
  refine ⟨.ref a, rfl, v, rfl, w, rfl, a, C, [v, w], rfl, by simp, T, ea, v, rfl, w, rfl, by simp [sizeLine_eq], fun p hp => ?_⟩
  have pa : p ≠ a := fun z => by rw [z, ea] at hp; cases hp
  have ea2 : upd H p (.tup [v, w]) a = some (exo a C none) := by rw [upd_ne (Ne.symm pa)]; exact ea
  refine ⟨p, [v, w], rfl, .inl (.inl upd_same), rfl, v, [w], rfl, .ref a, rfl, a, C, rfl, T, no f List.mem_cons_self, .inl ⟨ea2, fun dx hn ne => ?_⟩⟩
  refine ⟨w, [], rfl, .ref a, rfl, a, C, rfl, T, no g (List.mem_cons_of_mem _ List.mem_cons_self), .inr ⟨dx, [(f, v)], upd_same, by rw [upd_ne ne, upd_same], by simp, rfl, ?_⟩⟩
  rw [hD]
  have z := q (upd H p (.tup [v, w])) dx (.inr ⟨p, _, hp, rfl⟩) hn ne
  have e : upd (upd (upd (upd H p (.tup [v, w])) dx (exd dx [(f, v)])) a (exo a C (some dx))) dx (exd dx [(g, w), (f, v)]) = upd (upd (upd H p (.tup [v, w])) dx (exd dx [(g, w), (f, v)])) a (exo a C (some dx)) := by
    funext b
    by_cases hb : b = dx
    · subst hb; rw [upd_same, upd_ne ne, upd_same]
    · rw [upd_ne hb]
      by_cases ha : b = a
      · subst ha; rw [upd_same, upd_same]
      · rw [upd_ne ha, upd_ne hb, upd_ne ha, upd_ne hb]
  show Q .non (upd (upd (upd (upd H p (.tup [v, w])) dx (exd dx [(f, v)])) a (exo a C (some dx))) dx (exd dx [(g, w), (f, v)]))
  rw [e]
  exact z
end
end FW

set_option maxHeartbeats 4000000
namespace FW
open PySem PySem.Spec L2
open PyProof.Rows (envOfC AllBare)

/-! ### try: a body, several clauses, with names or without -/
abbrev Cl3 := Value × Option Nat × (Addr → Value → Option Addr → TS)
def wClause (o : Option Nat) (t : TS) (a : Addr) (D : Ends) (σ : L2.St) (H : Hp) : Prop := match o with
  | none => t D σ H
  | some i => t { nx := fun σ1 H1 => D.nx (σ1.set i none) H1, rt := D.rt, bk := fun σ1 H1 => D.bk (σ1.set i none) H1, ct := fun σ1 H1 => D.ct (σ1.set i none) H1 } (σ.set i (some (.ref a))) H
/-- what the clauses wish, from the first on -/
def wMix (K : PySem.W.Frag) (Wo : WX) (D : Ends) : List Cl3 → WX
  | [] => Wo
  | (c, o, ts) :: more => fun cls d σ H => ∃ yes, PySem.W.exmOne K cls c = some yes ∧ (yes = true → ∀ a, H a = none → wClause o (ts a cls d) a D σ H) ∧ (yes = false → wMix K Wo D more cls d σ H)
inductive HdMix (X : Cx) : List ExceptHandler → List Cl3 → Prop
  | nil : HdMix X [] []
  | bare {x : Str} {c : Value} {ts : Addr → Value → Option Addr → TS} {b₀ : Stmt} {suite : List Stmt} {np pos' : Pos} {hds : List ExceptHandler} {l : List Cl3} (hc : Names X x c)
      (hs : ∀ (a : Addr) (oe : Obj) (cls : Value) (d : Option Addr) (pn : List (Addr × Obj)), Zc cls d oe → (∃ vs, oe.data = .fields vs) → PSs (X.suite a ((a, oe) :: pn)) (b₀ :: suite) (ts a cls d)) (more : HdMix X hds l) :
      HdMix X (.ExceptHandler (some (.Name x np)) none (b₀ :: suite) pos' :: hds) ((c, none, ts) :: l)
  | named {x n : Str} {i : Nat} {c : Value} {ts : Addr → Value → Option Addr → TS} {b₀ : Stmt} {suite : List Stmt} {np pos' : Pos} {hds : List ExceptHandler} {l : List Cl3} (hc : Names X x c) (hN : X.N.Nodup) (hi : X.N[i]? = some n) (hl : X.env.kindOf n = some .local)
      (hs : ∀ (a : Addr) (oe : Obj) (cls : Value) (d : Option Addr) (pn : List (Addr × Obj)), Zc cls d oe → (∃ vs, oe.data = .fields vs) → PSs (X.suite a ((a, oe) :: pn)) (b₀ :: suite) (ts a cls d)) (more : HdMix X hds l) :
      HdMix X (.ExceptHandler (some (.Name x np)) (some n) (b₀ :: suite) pos' :: hds) ((c, some i, ts) :: l)
section
variable {X : Cx} {pins : List (Addr × Obj)} {σ : L2.St} {H : Hp} {D : Ends} {a : Addr} {cls : Value} {d : Option Addr} {B : Heap} {sI s' : Shared} {Wo : WX}
/-- the exception is caught, on the ground: what every clause starts from -/
structure Caught (X : Cx) (pins : List (Addr × Obj)) (σ : L2.St) (H : Hp) (a : Addr) (cls : Value) (d : Option Addr) (B : Heap) (sI s' : Shared) : Prop where
  inv : Inv X pins σ H sI
  nb : ∀ b o, sI.heap.get? b = some o → b ∉ frs X.stack → B.get? b = some o
  up : sI.heap.UpToSlots s'.heap
  fl : HandSPX.FlyingZ B (X.env :: X.outer) a (Zc cls d) s'.heap
  na : H a = none
  os : s'.os = sI.os
  ag : AllBare s'.gens
theorem Caught.later {h : Heap} (c : Caught X pins σ H a cls d B sI s') (up : s'.heap.UpToSlots h) (fl : HandSPX.FlyingZ B (X.env :: X.outer) a (Zc cls d) h) : Caught X pins σ H a cls d B sI { s' with heap := h } :=
  ⟨c.inv, c.nb, c.up.trans up, fl, c.na, c.os, c.ag⟩
theorem Caught.here (c : Caught X pins σ H a cls d B sI s') : Inv X pins σ H s' := c.inv.landed c.nb c.fl.1 c.up c.os c.ag
/-- the suite's context -/
theorem Caught.in_ (hf : X.env.frame = some X.env.locals) (c : Caught X pins σ H a cls d B sI s') : ∃ oe vs, s'.heap.get? a = some oe ∧ Zc cls d oe ∧ oe.data = .fields vs ∧ Inv (X.suite a ((a, oe) :: (X.pn ++ pins))) [] σ H s' := by
  obtain ⟨oe, vs, he, hz, hd⟩ := c.fl.there
  have far : a ∉ frs (X.env :: X.outer) := fun m => by
    obtain ⟨_, o', e', hnf⟩ := c.fl.2.2.1.mem m
    rw [he] at e'
    cases e'
    exact hnf _ hd
  refine ⟨oe, vs, he, hz, hd, c.here.suite he hd c.na (fun z => far ?_) fun m => far ?_⟩
  · exact List.mem_filterMap.mpr ⟨X.env, List.mem_cons_self, by rw [hf, z]⟩
  · obtain ⟨e, h1, h2⟩ := List.mem_filterMap.mp m
    exact List.mem_filterMap.mpr ⟨e, List.mem_cons_of_mem _ h1, h2⟩
/-- the class that a clause names -/
theorem names_test {x : Str} {c : Value} {np : Pos} {oe : Obj} {pn pins : List (Addr × Obj)} {Q E : Value → Shared → Prop} (hc : Names X x c) (S : Inv (X.suite a ((a, oe) :: pn)) pins σ H s') (q : Q c s') : wpAny (model X.prog X.w) (X.A.mark (some (.ref a))) (eval (.Name x np) X.env) Q E s' := by
  obtain ⟨hg, hdbg, h⟩ := hc
  rcases h with hm | ⟨hm, hv, hnn⟩
  · exact ld_glob (X := X.suite a ((a, oe) :: pn)) S hg hm q hdbg
  · exact ld_blt (X := X.suite a ((a, oe) :: pn)) S hg hm hv q hnn hdbg
/-- no clause takes it -/
theorem caught_none (hs : X.stack = X.env :: X.outer) (hf : X.env.frame = some X.env.locals) (tk : Takes X Wo) (c : Caught X pins σ H a cls d B sI s') (w : Wo cls d σ H) : wpAny (model X.prog X.w) X.A (handleBy (.ref a) X.env []) (SP X pins D) X.xe s' := by
  refine wpAny_handleBy_nil ?_
  have fl := c.fl
  obtain ⟨_, _, _, oe, vs, T, oT, ts, he, _, hd, h1, _⟩ := id fl
  unfold PySem.passOn
  refine wpAny_bind (wpAny_field he hd h1 ?_)
  rw [if_neg (by simp)]
  have last : wpAny (model X.prog X.w) X.A (setFlight (.ref a) X.env.frame) (fun _ s4 => wpAny (model X.prog X.w) X.A (throw (.ref a) : Sem Flow) (SP X pins D) X.xe s4) X.xe s' := by
    rw [hf]
    refine HandSPX.setFlight_upZ fl fun h4 up4 fl4 => wpAny_throw (tk _ _ ⟨a, B, sI, pins, σ, H, cls, d, rfl, c.inv, c.nb, c.up.trans fl4, .inr (.inr ?_), c.na, c.os, c.ag, w⟩)
    rw [hs]
    exact up4
  first
    | exact wpAny_bind (wpAny_pure (wpAny_bind last))
    | exact wpAny_bind last
/-- the clauses, one after the other -/
theorem caught_by (hs : X.stack = X.env :: X.outer) (hf : X.env.frame = some X.env.locals) (tk : Takes X Wo) : ∀ {hds : List ExceptHandler} {l : List Cl3}, HdMix X hds l → ∀ {s' : Shared}, Caught X pins σ H a cls d B sI s' → wMix X.K Wo D l cls d σ H →
    wpAny (model X.prog X.w) X.A (handleBy (.ref a) X.env hds) (SP X pins D) X.xe s' := by
  intro hds l hk
  induction hk with
  | nil => exact fun c w => caught_none hs hf tk c w
  | @bare x c ts b₀ suite np pos' hds l hc hsu more ih =>
    intro s' cg w
    obtain ⟨yes, hy, w1, w2⟩ := w
    obtain ⟨oe, vs, he, hz, hd, S1⟩ := cg.in_ hf
    have LM := PySem.W.exm_one (M := model X.prog X.w) S1.kIn (fun A Q E s k q => wpAny_typeOf_ref (k _ _ he) (by rw [hz.1]; exact q)) hy
    refine wpAny_handleBy_cons (codeAny_handlers_test ?_) (by intro q; cases q)
    refine names_test hc S1 (LM.here ?_)
    cases yes with
    | false => exact ih cg (w2 rfl)
    | true =>
      refine codeAny_handlers_suite (HandSPX.lands_againZ cg.fl fun h4 fl4 up4 => ?_)
      obtain ⟨oe4, vs4, he4, hz4, hd4, S4⟩ := (cg.later up4 fl4).in_ hf
      refine wpAny_mono ((hsu a oe4 cls d (X.pn ++ pins) hz4 ⟨_, hd4⟩).run [] _ _ H _ S4 (w1 rfl a cg.na)) (fun f s6 r => ?_) fun _ _ z => False.elim z
      cases f with
      | ret u =>
        obtain ⟨v, σ6, H6, S6, r6, q6⟩ := r
        exact ⟨v, σ6, H6, S6.unsuite cg.inv.ok, r6, q6⟩
      | next => obtain ⟨σ6, H6, S6, q6⟩ := r; exact ⟨σ6, H6, S6.unsuite cg.inv.ok, q6⟩
      | brk => obtain ⟨σ6, H6, S6, q6⟩ := r; exact ⟨σ6, H6, S6.unsuite cg.inv.ok, q6⟩
      | cont => obtain ⟨σ6, H6, S6, q6⟩ := r; exact ⟨σ6, H6, S6.unsuite cg.inv.ok, q6⟩
  | @named x n i c ts b₀ suite np pos' hds l hc hN hi hl hsu more ih =>
    intro s' cg w
    obtain ⟨yes, hy, w1, w2⟩ := w
    obtain ⟨oe, vs, he, hz, hd, S1⟩ := cg.in_ hf
    have LM := PySem.W.exm_one (M := model X.prog X.w) S1.kIn (fun A Q E s k q => wpAny_typeOf_ref (k _ _ he) (by rw [hz.1]; exact q)) hy
    refine wpAny_handleBy_cons (codeAny_handlers_test ?_) (by intro q; cases q)
    refine names_test hc S1 (LM.here ?_)
    cases yes with
    | false => exact ih cg (w2 rfl)
    | true =>
      refine codeAny_handlers_suite_as (HandSPX.lands_againZ cg.fl fun h4 fl4 up4 => ?_)
      obtain ⟨oe4, vs4, he4, hz4, hd4, S4⟩ := (cg.later up4 fl4).in_ hf
      refine store_ok (X := X.suite a ((a, oe4) :: (X.pn ++ pins))) (v := .ref a) S4 hN hi (.inl hl) rfl (fun s5 S5 => ?_) (.inr hl)
      refine wpAny_mono ((hsu a oe4 cls d (X.pn ++ pins) hz4 ⟨_, hd4⟩).run [] s5 _ H _ S5 (w1 rfl a cg.na)) (fun f s6 r => ?_) fun _ _ z => False.elim z
      cases f with
      | ret u =>
        obtain ⟨v, σ6, H6, S6, r6, q6⟩ := r
        exact gone_ok (S6.unsuite cg.inv.ok) hN hi hl fun s7 J => ⟨v, _, H6, J, r6, q6⟩
      | next => obtain ⟨σ6, H6, S6, q6⟩ := r; exact gone_ok (S6.unsuite cg.inv.ok) hN hi hl fun s7 J => ⟨_, H6, J, q6⟩
      | brk => obtain ⟨σ6, H6, S6, q6⟩ := r; exact gone_ok (S6.unsuite cg.inv.ok) hN hi hl fun s7 J => ⟨_, H6, J, q6⟩
      | cont => obtain ⟨σ6, H6, S6, q6⟩ := r; exact gone_ok (S6.unsuite cg.inv.ok) hN hi hl fun s7 J => ⟨_, H6, J, q6⟩
end
/-- THE RULE -/
theorem ps_mix {X : Cx} {body : List Stmt} {h₀ : ExceptHandler} {hds : List ExceptHandler} {l : List Cl3} {pos : Pos} {tb : WX → TS} {Wo : WX} (hs : X.stack = X.env :: X.outer) (hf : X.env.frame = some X.env.locals) (tk : Takes X Wo)
    (hb : ∀ (W : WX) (pn : List (Addr × Obj)) (xe : Value → Shared → Prop), Takes (X.tr pn xe) W → PassesOwn (model X.prog X.w) X.A X.env xe → PSs (X.tr pn xe) body (tb W))
    (hh : HdMix X (h₀ :: hds) l) : PS X (.Try body (h₀ :: hds) [] [] pos) (fun D σ H => tb (wMix X.K Wo D l) D σ H) := by
  constructor
  intro pins s σ H D I h
  have ok := I.ok
  refine wpAny_Try_except (wpAny_mono ((hb (wMix X.K Wo D l) (X.pn ++ pins) _ (fun u s' xx => ?_) PassesOwn.looking).run [] s σ H D (I.toTry _) h) (fun f s1 r => ?_) fun e s1 he => he)
  · obtain ⟨a, B, sI, pins', σ', H', cls, d, rfl, J', nb, up, sky, na, os, ag, w⟩ := xx
    have sky2 : Sky B (X.env :: X.outer) a (Zc cls d) X.env.locals s'.heap := by rw [← hs]; exact sky
    refine Sky.land Zc.steady (by rw [ok.frames, hs]) hf sky2 fun h3 fl3 up3 => ?_
    exact caught_by hs hf tk hh ⟨J'.ofTry ok, nb, up.trans up3, fl3, na, os, ag⟩ w
  · cases f with
    | next => obtain ⟨σ', H', J', q⟩ := r; exact wpAny_execs_nil ⟨σ', H', J'.ofTry ok, q⟩
    | brk => obtain ⟨σ', H', J', q⟩ := r; exact ⟨σ', H', J'.ofTry ok, q⟩
    | cont => obtain ⟨σ', H', J', q⟩ := r; exact ⟨σ', H', J'.ofTry ok, q⟩
    | ret u => obtain ⟨v, σ', H', J', r1, q⟩ := r; exact ⟨v, σ', H', J'.ofTry ok, r1, q⟩
end FW

set_option maxHeartbeats 4000000
namespace FW
open PySem PySem.Spec L2

/-! ### try: .. except C as e: return .. -/
theorem hx_none {X : Cx} : HX X noX := ⟨fun _ _ _ _ => False, takes_none5, fun _ _ _ _ _ _ h _ _ => h.elim⟩
/-- a clause's reading: the name that holds the exception, what is returned -/
abbrev Hn := Option Nat × (Exn → M D)
def hEnv (o : Option Nat) (e : Env) : Env := match o with
  | none => e
  | some i => e.set i none
def hIn (o : Option Nat) (e : Env) : Bool := match o with
  | none => true
  | some i => decide (i < e.length)
def hSig (o : Option Nat) (a : Addr) (σ : L2.St) : L2.St := match o with
  | none => σ
  | some i => σ.set i (some (.ref a))
def pickH : List Bool → List Hn → Option Hn
  | true :: _, h :: _ => some h
  | false :: bs, _ :: hs => pickH bs hs
  | _, _ => none
/-- the classes that may come, their fields, which clauses they meet -/
abbrev XTb := List (Str × List Str × List Bool)
def xtAt (tbl : XTb) (x : Exn) : Option (Str × List Str × List Bool) := tbl.find? fun t => decide (t.1 = x.cls) && decide (t.2.1 = x.flds.map (·.1))
def sTry (tbl : XTb) (m : MS) (hs : List Hn) : MS := fun e st => match m e st with
  | some (.exc x e1, st1) => match xtAt tbl x with
    | some t => match pickH t.2.2 hs with
      | some h => if hIn h.1 e1 = true then (match h.2 x (hEnv h.1 e1) st1 with
        | some (.ok d, st2) => some (.rt d, st2)
        | _ => none) else none
      | none => if t.2.2.any id = false ∧ t.2.2.length = hs.length then some (.exc x e1, st1) else none
    | none => none
  | o => o
theorem RE.unset {K : PySem.W.Frag} {r : Ad} {H : Hp} {e : Env} {σ : L2.St} (h : RE K r H e σ) (i : Nat) (z : Option V) : RE K r H (e.set i Option.none) (σ.set i z) := by
  refine ⟨by simp [h.len], fun j d e' => ?_⟩
  by_cases hj : i = j
  · subst hj
    by_cases hi : i < e.length
    · rw [List.getElem?_set_self hi] at e'; cases e'
    · rw [List.getElem?_eq_none (by simpa using hi)] at e'; cases e'
  · rw [List.getElem?_set_ne hj] at e'
    obtain ⟨w, a, b⟩ := h.at' j d e'
    exact ⟨w, by rw [List.getElem?_set_ne hj]; exact a, b⟩
/-- what an expression of a clause is worth -/
def tH (K : PySem.W.Frag) (a : Addr) (x : Exn) (dd : Option Addr) (o : Option Nat) (m : M D) : TE := fun σ H Q => ∃ r e st d st', Sim K r H st ∧ RE K r H e σ ∧ XF K r H x.flds dd ∧ (∀ i, o = some i → σ[i]? = some (some (.ref a))) ∧ m e st = some (.ok d, st') ∧
  ∀ r' H' v, Sim K r' H' st' → Ext K r H r' H' → RD K r' H' d v → Q v H'
def tHs (K : PySem.W.Frag) (a : Addr) (x : Exn) (dd : Option Addr) (o : Option Nat) (m : M (List D)) : TA := fun σ H Q => ∃ r e st ds st', Sim K r H st ∧ RE K r H e σ ∧ XF K r H x.flds dd ∧ (∀ i, o = some i → σ[i]? = some (some (.ref a))) ∧ m e st = some (.ok ds, st') ∧
  ∀ r' H' vs, Sim K r' H' st' → Ext K r H r' H' → RDs K r' H' ds vs → Q vs H'
/-- the class of the exception, what its fields are read by -/
structure XK1 (K : PySem.W.Frag) (C : Addr) (fs : List Str) : Prop where
  xf : fs ≠ [] → XfC K C
  no : ∀ f ∈ fs, PySem.W.findIn K (.ref C) f = some none
def HE (X : Cx) (o : Option Nat) (e : Expr) (h : Exn → M D) : Prop := ∀ (a : Addr) (oe : Obj) (cls : Value) (d : Option Addr) (pn : List (Addr × Obj)), Zc cls d oe → (∃ vs, oe.data = .fields vs) → ∀ (x : Exn) (C : Addr), cls = .ref C → XK1 X.K C (x.flds.map (·.1)) → PE (X.suite a ((a, oe) :: pn)) e (tH X.K a x d o (h x))
def HEs (X : Cx) (o : Option Nat) (es : List Expr) (h : Exn → M (List D)) : Prop := ∀ (a : Addr) (oe : Obj) (cls : Value) (d : Option Addr) (pn : List (Addr × Obj)), Zc cls d oe → (∃ vs, oe.data = .fields vs) → ∀ (x : Exn) (C : Addr), cls = .ref C → XK1 X.K C (x.flds.map (·.1)) → PA (X.suite a ((a, oe) :: pn)) es (tHs X.K a x d o (h x))
def xFld (f : Str) (x : Exn) : M D := fun _ st => match x.flds.lookup f with
  | some d => some (.ok d, st)
  | none => none
section
variable {X : Cx} {EW : EWt} {o : Option Nat}
theorem h_c {e : Expr} {c : D} {v : V} (h : ∀ a oe pn, PE (X.suite a ((a, oe) :: pn)) e (tC v)) (hr : ∀ r H, RD X.K r H c v) : HE X o e (fun _ => xC c) := by
  intro a oe cls d pn _ _ x C _ _
  refine PE.weak (h a oe pn) ?_
  rintro σ H Q ⟨r, e, st, d, st', S, hE, hx, hi, hm, P⟩
  cases hm
  exact P r H v S (Ext.refl _ _ _) (hr r H)
theorem h_str {y : Str} {j pos} : HE X o (.Constant (.str y) j pos) (fun _ => xC (.str y)) := h_c (fun _ _ _ => pe_str) fun _ _ => by simp only [RD]
theorem h_non {j pos} : HE X o (.Constant .none j pos) (fun _ => xC .non) := h_c (fun _ _ _ => pe_non) fun _ _ => by simp only [RD]
theorem h_bl {b : Bool} {j pos} : HE X o (.Constant (.bool b) j pos) (fun _ => xC (.bl b)) := h_c (fun _ _ _ => pe_bl) fun _ _ => by simp only [RD]
theorem h_int {i : Int} {j pos} : HE X o (.Constant (.int i) j pos) (fun _ => xC (.int i)) := h_c (fun _ _ _ => pe_int) fun _ _ => by simp only [RD]
theorem look_in {α : Type} {f : Str} {v : α} : ∀ {l : List (Str × α)}, l.lookup f = some v → f ∈ l.map (·.1)
  | [], h => by simp at h
  | (g, u) :: l, h => by
    rw [List.map_cons]
    simp only [List.lookup_cons] at h
    split at h
    · rename_i e
      have e : f = g := by simpa using e
      rw [e]
      exact List.mem_cons_self
    · exact List.mem_cons_of_mem _ (look_in h)
/-- e.f -/
theorem h_fld {i : Nat} {n f : Str} {p pos : Pos} (hN : X.N[i]? = some n) (hv : Vis X.env.scope n) (hd : (n == ("__debug__" : Str)) = false := by decide) (hcd : (n == ("__classdict__" : Str)) = false := by decide)
    (hb : ∀ a oe pn, attributeBase (.Name n p) f (X.suite a ((a, oe) :: pn)).env (eval (.Name n p) (X.suite a ((a, oe) :: pn)).env) = eval (.Name n p) (X.suite a ((a, oe) :: pn)).env := by intros; rfl) : HE X (some i) (.Attribute (.Name n p) f pos) (xFld f) := by
  intro a oe cls d pn hz hf x C ec k
  by_cases hin : f ∈ x.flds.map (·.1)
  · refine PE.weak (pe_xf (k.xf fun z => by rw [z] at hin; cases hin) (k.no f hin) hz hf (pe_var (X := X.suite a ((a, oe) :: pn)) (i := i) hN hv hd hcd) (hb a oe pn)) ?_
    rintro σ H Q ⟨r, e, st, dv, st', S, hE, hx, hi, hm, P⟩
    unfold xFld at hm
    split at hm
    · rename_i d0 hl
      cases hm
      refine ⟨.ref a, hi i rfl, rfl, ec, ?_⟩
      rcases hx with ⟨h0, _⟩ | ⟨dd, fs, e1, e2, e3⟩
      · rw [h0] at hl; simp at hl
      · obtain ⟨v, h1, h2⟩ := e3 f _ hl
        exact ⟨dd, fs, v, e1, e2, h1, P r H v S (Ext.refl _ _ _) h2⟩
    · cases hm
  · constructor
    rintro pins s σ H Q I ⟨r, e, st, dv, st', S, hE, hx, hi, hm, P⟩
    exfalso
    unfold xFld at hm
    split at hm
    · rename_i d0 hl
      exact hin (look_in hl)
    · cases hm
theorem hs_nil : HEs X o [] (fun _ => aN) := by
  intro a oe cls d pn _ _ x C _ _
  refine PA.weak pa_nil ?_
  rintro σ H Q ⟨r, e, st, ds, st', S, hE, hx, hi, hm, P⟩
  cases hm
  exact P r H [] S (Ext.refl _ _ _) RDs.nil
theorem hs_cons {e : Expr} {es : List Expr} {h : Exn → M D} {hs : Exn → M (List D)} (h1 : HE X o e h) (h2 : HEs X o es hs) (hst : starEach (e :: es) X.env = (false, eval e X.env) :: starEach es X.env := by rfl) : HEs X o (e :: es) (fun x => aC (h x) (hs x)) := by
  intro a oe cls d pn hz hf x C ec k
  refine PA.weak (pa_cons (h1 a oe cls d pn hz hf x C ec k) (h2 a oe cls d pn hz hf x C ec k) hst) ?_
  rintro σ H Q ⟨r, e, st, ds, st', S, hE, hx, hi, hm, P⟩
  unfold aC at hm
  cases q : h x e st with
  | none => simp only [xbnd, q, bnd] at hm; cases hm
  | some p =>
    obtain ⟨o1, st1⟩ := p
    cases o1 with
    | exc y => simp only [xbnd, q, bnd] at hm; cases hm
    | ok d1 =>
      simp only [xbnd, q, bnd] at hm
      refine ⟨r, e, st, d1, st1, S, hE, hx, hi, q, fun r1 H1 v S1 x1 hv => ?_⟩
      cases q2 : hs x e st1 with
      | none => simp only [q2] at hm; cases hm
      | some p2 =>
        obtain ⟨o2, st2⟩ := p2
        cases o2 with
        | exc y => simp only [q2] at hm; cases hm
        | ok ds2 =>
          simp only [q2] at hm
          cases hm
          exact ⟨r1, e, st1, ds2, _, S1, hE.mono x1, hx.mono S x1, hi, q2, fun r2 H2 vs S2 x2 hvs => P r2 H2 _ S2 (x1.trans' S S1 x2) (RDs.cons (hv.mono x2) hvs)⟩
theorem h_tup {es : List Expr} {hs : Exn → M (List D)} {k} {pos : Pos} (h : HEs X o es hs) : HE X o (.Tuple es k pos) (fun x => xTup (hs x)) := by
  intro a oe cls d pn hz hf x C ec k
  refine PE.weak (pe_tupP (h a oe cls d pn hz hf x C ec k)) ?_
  rintro σ H Q ⟨r, e, st, dv, st', S, hE, hx, hi, hm, P⟩
  unfold xTup at hm
  cases q : hs x e st with
  | none => simp only [xbnd, q, bnd] at hm; cases hm
  | some p =>
    obtain ⟨o1, st1⟩ := p
    cases o1 with
    | exc y => simp only [xbnd, q, bnd] at hm; cases hm
    | ok ds =>
      simp only [xbnd, q, bnd] at hm
      split at hm
      · rename_i hl
        cases hm
        refine ⟨r, e, st, ds, _, S, hE, hx, hi, q, fun r1 H1 vs S1 x1 hd => ⟨by rw [← hd.length]; exact hl, fun p o ho hp => ?_⟩⟩
        obtain ⟨S2, x2⟩ := S1.side (o := .frz o (.tup vs)) hp
        exact P r1 _ _ S2 (x1.trans' S S1 x2) (by simp only [RD]; exact ⟨p, vs, rfl, ⟨.inl (.inr ⟨o, upd_same⟩), fun _ => .inl ⟨o, ho, upd_same⟩⟩, hd.mono x2⟩)
      · cases hm
end

/-- the clauses: each one returns an expression -/
inductive Cls (X : Cx) : List ExceptHandler → List Str → List Hn → Prop
  | nil : Cls X [] [] []
  | bare {x : Str} {e : Expr} {h : Exn → M D} {np rp pos : Pos} {hds : List ExceptHandler} {xs : List Str} {hs : List Hn} (hg : Gl X x) (hd : (x == ("__debug__" : Str)) = false) (he : HE X none e h) (more : Cls X hds xs hs) :
      Cls X (.ExceptHandler (some (.Name x np)) none [.Return (some e) rp] pos :: hds) (x :: xs) ((none, h) :: hs)
  | named {x n : Str} {i : Nat} {e : Expr} {h : Exn → M D} {np rp pos : Pos} {hds : List ExceptHandler} {xs : List Str} {hs : List Hn} (hg : Gl X x) (hd : (x == ("__debug__" : Str)) = false) (hN : X.N.Nodup) (hi : X.N[i]? = some n) (hl : X.env.kindOf n = some .local) (he : HE X (some i) e h) (more : Cls X hds xs hs) :
      Cls X (.ExceptHandler (some (.Name x np)) (some n) [.Return (some e) rp] pos :: hds) (x :: xs) ((some i, h) :: hs)
/-- the table is as the classes are -/
structure XtOk (K : PySem.W.Frag) (mg : Str → Option Value) (tbl : XTb) (xs : List Str) : Prop where
  hd : ∀ x ∈ xs, ∃ C : Addr, mg x = some (.ref C)
  at_ : ∀ t ∈ tbl, ∀ C : Addr, mg t.1 = some (.ref C) → XK1 K C t.2.1 ∧ t.2.2.length = xs.length ∧ ∀ p ∈ xs.zip t.2.2, ∀ C2 : Addr, mg p.1 = some (.ref C2) → PySem.W.exmOne K (.ref C) (.ref C2) = some p.2
/-- the wish of a clause at an exception of the table -/
def tsH (K : PySem.W.Frag) (mg : Str → Option Value) (o : Option Nat) (h : Exn → M D) : Addr → Value → Option Addr → TS := fun a cls d D σ H => ∃ (x : Exn) (C : Addr), cls = .ref C ∧ XK1 K C (x.flds.map (·.1)) ∧ tH K a x d o (h x) σ H D.rt
section
variable {X : Cx} {EW : EWt}
theorem tsH_ps {o : Option Nat} {e : Expr} {h : Exn → M D} {rp : Pos} (he : HE X o e h) (a : Addr) (oe : Obj) (cls : Value) (d : Option Addr) (pn : List (Addr × Obj)) (hz : Zc cls d oe) (hf : ∃ vs, oe.data = .fields vs) : PSs (X.suite a ((a, oe) :: pn)) [.Return (some e) rp] (tsH X.K X.mg o h a cls d) := by
  constructor
  rintro pins s σ H D I ⟨x, C, ec, k, hh⟩
  exact (pss_one (ps_ret (he a oe cls d pn hz hf x C ec k))).run pins s σ H D I hh
theorem cls_mix : ∀ {hds : List ExceptHandler} {xs : List Str} {hs : List Hn}, Cls X hds xs hs → (∀ x ∈ xs, ∃ C : Addr, X.mg x = some (.ref C)) → ∃ l : List Cl3, HdMix X hds l ∧
    ∀ (Wo : WX) (D : Ends) (x : Exn) (C : Addr) (dd : Option Addr) (σ : L2.St) (H : Hp) (bs : List Bool), XK1 X.K C (x.flds.map (·.1)) → bs.length = xs.length → (∀ p ∈ xs.zip bs, ∀ C2 : Addr, X.mg p.1 = some (.ref C2) → PySem.W.exmOne X.K (.ref C) (.ref C2) = some p.2) →
      (∀ h, pickH bs hs = some h → ∀ a, H a = none → tH X.K a x dd h.1 (h.2 x) (hSig h.1 a σ) H D.rt) → (pickH bs hs = none → Wo (.ref C) dd σ H) → wMix X.K Wo D l (.ref C) dd σ H := by
  intro hds xs hs k
  induction k with
  | nil => exact fun _ => ⟨[], .nil, fun Wo D x C dd σ H bs _ hl _ _ h2 => h2 (by
    have : bs = [] := List.length_eq_zero_iff.mp hl
    subst this
    rfl)⟩
  | @bare x e h np rp pos hds xs hs hg hd he more ih =>
    intro hc
    obtain ⟨C1, e1⟩ := hc x List.mem_cons_self
    obtain ⟨l, m1, m2⟩ := ih fun y hy => hc y (List.mem_cons_of_mem _ hy)
    refine ⟨(.ref C1, none, tsH X.K X.mg none h) :: l, .bare ⟨hg, hd, .inl e1⟩ (tsH_ps he) m1, fun Wo D y C dd σ H bs kx hl hx h1 h2 => ?_⟩
    cases bs with
    | nil => simp at hl
    | cons b bs =>
      simp only [List.length_cons] at hl
      refine ⟨b, hx (x, b) (by simp) C1 e1, fun hb a ha => ?_, fun hb => ?_⟩
      · subst hb
        exact ⟨y, C, rfl, kx, h1 _ rfl a ha⟩
      · subst hb
        exact m2 Wo D y C dd σ H bs kx (by omega) (fun p hp => hx p (by simp [hp])) h1 h2
  | @named x n i e h np rp pos hds xs hs hg hd hN hi hl0 he more ih =>
    intro hc
    obtain ⟨C1, e1⟩ := hc x List.mem_cons_self
    obtain ⟨l, m1, m2⟩ := ih fun y hy => hc y (List.mem_cons_of_mem _ hy)
    refine ⟨(.ref C1, some i, tsH X.K X.mg (some i) h) :: l, .named ⟨hg, hd, .inl e1⟩ hN hi hl0 (tsH_ps he) m1, fun Wo D y C dd σ H bs kx hl hx h1 h2 => ?_⟩
    cases bs with
    | nil => simp at hl
    | cons b bs =>
      simp only [List.length_cons] at hl
      refine ⟨b, hx (x, b) (by simp) C1 e1, fun hb a ha => ?_, fun hb => ?_⟩
      · subst hb
        exact ⟨y, C, rfl, kx, h1 _ rfl a ha⟩
      · subst hb
        exact m2 Wo D y C dd σ H bs kx (by omega) (fun p hp => hx p (by simp [hp])) h1 h2
/-- THE RULE for try: body / except ..: return .. -/
theorem s_try {body : List Stmt} {h₀ : ExceptHandler} {hds : List ExceptHandler} {pos : Pos} {tbl : XTb} {xs : List Str} {hs : List Hn} {m : MS} (hst : X.stack = X.env :: X.outer) (hf : X.env.frame = some X.env.locals) (hx : HX X EW) (kt : XtOk X.K X.mg tbl xs) (hc : Cls X (h₀ :: hds) xs hs) (hmg : True)
    (hb : ∀ (pn : List (Addr × Obj)) (xe : Value → Shared → Prop) (EW' : EWt), HX (X.tr pn xe) EW' → PassesOwn (model X.prog X.w) X.A X.env xe → Ss (X.tr pn xe) EW' body m) : S_ X EW (.Try body (h₀ :: hds) [] [] pos) (sTry tbl m hs) := by
  obtain ⟨Wo, tk, hw⟩ := hx
  obtain ⟨l, hm, key⟩ := cls_mix hc kt.hd
  refine PS.weak (ps_mix (tb := fun W => tS X.K (fun x σ r H => ∀ C dd, X.mg x.cls = some (.ref C) → XF X.K r H x.flds dd → W (.ref C) dd σ H) m) hst hf tk (fun W pn xe tkW pass => hb pn xe _ ⟨W, tkW, fun x σ r H C dd h e1 e2 => h C dd e1 e2⟩ pass) hm) ?_
  rintro D σ H ⟨r, e, st, out, st', S, hE, h, P⟩
  unfold sTry at h
  cases q : m e st with
  | none => rw [q] at h; cases h
  | some p =>
    obtain ⟨o, st1⟩ := p
    rw [q] at h
    refine ⟨r, e, st, o, st1, S, hE, q, ?_⟩
    cases o with
    | nx e1 => cases h; exact P
    | bk e1 => cases h; exact P
    | ct e1 => cases h; exact P
    | rt d => cases h; exact P
    | exc x e1 =>
      intro r1 H1 σ1 S1 x1 hE1 C dd eC hF
      dsimp only at h
      cases qt : xtAt tbl x with
      | none => rw [qt] at h; cases h
      | some t =>
        rw [qt] at h
        dsimp only at h
        have tm : t ∈ tbl := List.mem_of_find?_eq_some qt
        have tp := List.find?_some qt
        simp only [Bool.and_eq_true, decide_eq_true_eq] at tp
        obtain ⟨t1, t2⟩ := tp
        obtain ⟨k1, k2, k3⟩ := kt.at_ t tm C (by rw [t1]; exact eC)
        rw [t2] at k1
        refine key Wo D x C dd σ1 H1 t.2.2 k1 k2 k3 (fun hh eh a ha => ?_) fun eh => ?_
        · rw [eh] at h
          dsimp only at h
          split at h
          · rename_i hlen
            cases qh : hh.2 x (hEnv hh.1 e1) st1 with
            | none => rw [qh] at h; cases h
            | some p2 =>
              obtain ⟨o2, st2⟩ := p2
              rw [qh] at h
              cases o2 with
              | exc y => cases h
              | ok d =>
                cases h
                obtain ⟨o3, hx3⟩ := hh
                have hE2 : RE X.K r1 H1 (hEnv o3 e1) (hSig o3 a σ1) := by
                  cases o3 with
                  | none => exact hE1
                  | some i => exact hE1.unset i _
                refine ⟨r1, hEnv o3 e1, st1, d, _, S1, hE2, hF, fun i ei => ?_, qh, fun r2 H2 v S2 x2 hv => P r2 H2 v S2 (x1.trans' S S1 x2) hv⟩
                dsimp only at ei
                subst ei
                have hlt : i < σ1.length := by
                  have := of_decide_eq_true hlen
                  rw [← hE1.len]
                  exact this
                exact List.getElem?_set_self hlt
          · cases h
        · rw [eh] at h
          dsimp only at h
          split at h
          · cases h
            exact hw x σ1 r1 H1 C dd (P r1 H1 σ1 S1 x1 hE1) eC hF
          · cases h
end
end FW

set_option maxHeartbeats 4000000
namespace FW
open PySem PySem.Spec L2
open PyProof.Rows (AllBare)

/-! ### objects of own classes of exceptions that are not raised: made, asked for their type -/
/-- what of the text such a class must have -/
structure OtC (K : PySem.W.Frag) (C : Addr) : Prop where
  ex : PySem.W.excIn K C He.veBase "ValueError.__new__" = true
  kp : PySem.W.keepIn K (.ref C) = true
  cl : (PySem.W.clsIn K C).isSome = true
  ga : PySem.W.findIn K (.ref C) "__getattribute__" = some (some (.builtin "BaseException.__getattribute__"))
  gg : PySem.W.findIn K (.ref C) "__getattr__" = some none
  sb : PySem.W.subIn K (.ref C) (.type "BaseException") = some true
  cs : PySem.W.findIn K (.ref C) "__class__" = some (some (.builtin "object.__class__"))
  sp : PySem.W.specialIn K (.builtin "object.__class__") "__get__" = some (some (.builtin "getset_descriptor.__get__"))
  tk : PySem.W.takesIn K (.builtin "object.__class__") = some true
  ob : PySem.W.mroIn K C (.type "object") = some true
def otyps : List String := ["bool", "int", "str", "tuple", "list", "dict"]
def OtT (K : PySem.W.Frag) (xs : List Str) : Prop := ∀ x ∈ xs, OtC K (He.ga K x) ∧ ∀ T ∈ otyps, PySem.W.kitOne K (.ref (He.ga K x)) (.type T) = some false
def otB (K : PySem.W.Frag) (C : Addr) : Bool := PySem.W.excIn K C He.veBase "ValueError.__new__" && (PySem.W.keepIn K (.ref C) && ((PySem.W.clsIn K C).isSome && (decide (PySem.W.findIn K (.ref C) "__getattribute__" = some (some (.builtin "BaseException.__getattribute__"))) &&
  (decide (PySem.W.findIn K (.ref C) "__getattr__" = some none) && (decide (PySem.W.subIn K (.ref C) (.type "BaseException") = some true) && (decide (PySem.W.findIn K (.ref C) "__class__" = some (some (.builtin "object.__class__"))) &&
  (decide (PySem.W.specialIn K (.builtin "object.__class__") "__get__" = some (some (.builtin "getset_descriptor.__get__"))) && (decide (PySem.W.takesIn K (.builtin "object.__class__") = some true) && (decide (PySem.W.mroIn K C (.type "object") = some true) &&
  otyps.all fun T => decide (PySem.W.kitOne K (.ref C) (.type T) = some false))))))))))
theorem otB_ok {K : PySem.W.Frag} {C : Addr} (h : otB K C = true) : OtC K C ∧ ∀ T ∈ otyps, PySem.W.kitOne K (.ref C) (.type T) = some false := by
  unfold otB at h
  simp only [Bool.and_eq_true, decide_eq_true_eq, List.all_eq_true] at h
  obtain ⟨h1, h2, h3, h4, h5, h6, h7, h8, h9, h10, h11⟩ := h
  exact ⟨⟨h1, h2, h3, h4, h5, h6, h7, h8, h9, h10⟩, h11⟩
section
variable {X : Cx} {EW : EWt}
theorem pe_new0 {x : Str} {C : Addr} {p pos : Pos} (T : OtC X.K C) (gC : X.mg x = some (.ref C)) (hg : Gl X x) (hdb : (x == ("__debug__" : Str)) = false := by decide) :
    PE X (.Call (.Name x p) [] [] pos) (fun _ H Q => ∀ a, H a = none → Q (.ref a) (upd H a (exo a C none))) := by
  constructor
  intro pins s σ H Q I h
  refine wpAny_Call_Name_kw (ld_glob I hg gC ?_ hdb)
  refine PySem.W.callWith_K0 I.kIn T.kp ?_
  obtain ⟨bm, N, nm, qn, bs, hdct, sn, sub, ab, col, dd, k0, k1, k2, k3, k5, mN, hC, hN, hni, OT⟩ := exc_obj I.kIn T.ex
  refine wpAny_call_exc_subT F.excBase_ValueError OT hC hN hni (fun h' e hm => ?_) (by simp [sizeLine_eq])
  have hn := I.hok.gone hm.new
  obtain ⟨t, he, _, _⟩ := hm.there
  have ne : ∀ {b : Addr} {o : Obj}, s.heap.get? b = some o → b ≠ e := fun {b o} q z => by rw [z, hm.new] at q; cases q
  have U : Un X.fs [] H (upd H e (exo e C none)) s.heap h' := {
    keep := fun b o q _ _ _ => hm.keeps b o q
    slot := fun b o q _ _ _ => ⟨o.slots, hm.keeps b o q⟩
    free := fun b o q n _ => by rw [upd_ne (ne q)]; exact n
    there := fun b o q _ => ⟨o, hm.keeps b o q⟩
    tups := fun b xs q => by rw [upd_ne (ne_of_none q hn)]; exact q
    frzs := fun b o u q => by rw [upd_ne (ne_of_none q hn)]; exact q
    tbls := fun b ps q => ⟨#[], by rw [upd_ne (ne_of_none q hn), q]; simp⟩ }
  have J : Inv X pins σ (upd H e (exo e C none)) { s with heap := h' } := I.un (t' := s.toks) U fun b o q => by
    by_cases hb : b = e
    · subst hb
      rw [upd_same] at q
      cases q
      exact exo_ok he
    · rw [upd_ne hb] at q
      exact (I.hok b o q).stay (fun c v _ z => hm.keeps c v z) (fun c hc => by rw [upd_ne (ne_of_none hc hn)]; exact hc) fun c xs hc => by rw [upd_ne (ne_of_none hc hn)]; exact hc
  exact ⟨.ref e, _, J, rfl, h e hn⟩
/-- C(), as a value -/
def xOth (x : Str) : M D := fun _ st => some (.ok (.oth x), st)
theorem e_oth {x : Str} {p pos : Pos} {xs : List Str} (T : OtT X.K xs) (hm : x ∈ xs) (gC : X.mg x = some (.ref (He.ga X.K x))) (hg : Gl X x) (hdb : (x == ("__debug__" : Str)) = false := by decide) : E X EW (.Call (.Name x p) [] [] pos) (xOth x) := by
  refine PE.weak (pe_new0 (T x hm).1 gC hg hdb) ?_
  rintro σ H Q ⟨r, e, st, out, st', S, hE, h, P⟩
  cases h
  intro a hn
  obtain ⟨S1, x1⟩ := S.side (o := exo a (He.ga X.K x) none) hn
  refine P r _ _ S1 x1 ?_
  simp only [RD]
  exact ⟨a, rfl, upd_same, S.notin hn⟩
/-- isinstance(x, T) of such an object -/
def rIsiO (K : PySem.W.Frag) : List V → Hp → VK → Prop := fun xs H Q => ∃ (a C : Addr) (T : String), xs = [.ref a, .ty T] ∧ H a = some (exo a C none) ∧ OtC K C ∧ PySem.W.kitOne K (.ref C) (.type T) = some false ∧ Q (.bl false) H
theorem cr_isiO : CallR X (.builtin "isinstance") (rIsiO X.K) := by
  intro pins s σ H xs us Q I r h
  obtain ⟨a, C, T, rfl, ha, k, e, q⟩ := h
  obtain ⟨u1, u2, rfl, r1, r2⟩ := vals2 r
  cases (show u1 = Value.ref a from r1)
  cases (show u2 = Value.type T from r2)
  obtain ⟨t, ho⟩ := exo_at I.hok ha
  have J : PySem.W.InstAt s.heap a { cls := .ref C, dict := none, data := .fields #[.ref t, .none, .none, .none, .bool false, .none] } C none := ⟨ho, rfl, rfl, trivial⟩
  exact PySem.W.kia_one (PySem.W.kitx_exc k.cl k.ga k.gg k.sb k.cs k.sp k.tk k.ob) I.kIn J e (fun z => nomatch z) fun tk => ⟨.bl false, H, I.tok tk, rfl, q⟩
end
def oIsiO (xs : List Str) : Fn0 := fun as st => match as with
  | [.oth x, .cst (.ty T)] => if x ∈ xs ∧ T ∈ otyps then some (.bl false, st) else none
  | as => oIsi as st
def rIsiX (K : PySem.W.Frag) : List V → Hp → VK → Prop := fun xs H Q => rIsi K xs H Q ∨ rIsiO K xs H Q
theorem call_isiX {X : Cx} : CallR X (.builtin "isinstance") (rIsiX X.K) := CallR.or call_isi cr_isiO
theorem oIsiO_ok {K : PySem.W.Frag} {xs : List Str} (T : OtT K xs) : CallS K (rIsiX K) (oIsiO xs) := by
  intro r H st ds vs z st' Q S hs h P
  unfold oIsiO at h
  split at h
  · rename_i x Ty
    obtain ⟨v, c, rfl, hv, hc⟩ := hs.two
    simp only [RD, cV] at hv hc
    subst hc
    obtain ⟨a, rfl, e, n⟩ := hv
    split at h
    · rename_i hm
      cases h
      exact .inr ⟨a, _, Ty, rfl, e, (T x hm.1).1, (T x hm.1).2 Ty hm.2, P.bl S⟩
    · cases h
  · exact .inl (oIsi_ok r H st ds vs z st' Q S hs h P)
end FW

set_option maxHeartbeats 4000000
namespace FW
open PySem PySem.Spec PyProof.Rows L2

/-! ### the head: own classes of exceptions -/
def oexB (K : PySem.W.Frag) (C : Addr) : Bool := (match K.lookup C with
  | some ⟨.type t, _, .cls cd, sl⟩ => (match cd.mro, sl.toList with
    | .ref C' :: bm, [_, _, _, _, some (.builtin n), _] => C' == C && (t == "type" && (n == "ValueError.__new__" && (!cd.hasDel && (cd.hasDict && PySem.HandSPX.refsVE bm))))
    | _, _ => false)
  | _ => false) && (decide (PySem.W.findIn K (.ref C) "__setattr__" = some (some (.builtin "object.__setattr__"))) && (decide (PySem.W.subIn K (.ref C) (.type "BaseException") = some true) && (decide (PySem.W.typeIn K (.ref C) = some (.type "type")) && PySem.W.keepIn K (.ref C))))
theorem oexB_ok {K : PySem.W.Frag} {C : Addr} (h : oexB K C = true) : OexC K C := by
  unfold oexB at h
  rw [Bool.and_eq_true] at h
  obtain ⟨h0, h⟩ := h
  simp only [Bool.and_eq_true, decide_eq_true_eq] at h
  obtain ⟨h1, h2, h3, h4⟩ := h
  refine ⟨?_, h1, h2, h3, h4⟩
  split at h0
  · rename_i t dd cd sl ho
    split at h0
    · rename_i C' bm k0 k1 k2 k3 n k5 hm hs
      simp only [Bool.and_eq_true, beq_iff_eq, Bool.not_eq_true'] at h0
      obtain ⟨rfl, rfl, rfl, hdel, hdict, hb⟩ := h0
      obtain ⟨nm, bs, mro, ns, qn, hd, sn, sub, ab, col, del⟩ := cd
      dsimp only at hm hdel hdict
      subst hm hdel hdict
      have hsl : sl = #[k0, k1, k2, k3, some (.builtin "ValueError.__new__"), k5] := by
        obtain ⟨l⟩ := sl
        simp only at hs
        rw [hs]
      subst hsl
      exact ⟨nm, qn, ns, bs, bm, sn, sub, ab, col, dd, k0, k1, k2, k3, k5, ho, hb⟩
    · cases h0
  · cases h0
def seB (K : PySem.W.Frag) (S : Addr) : Bool := PySem.W.readsIn K S (.type "type") && (decide (PySem.W.specialIn K (.ref S) "__getattribute__" = some (some (.builtin "type.__getattribute__"))) && (match PySem.W.findCls K (.ref S) (.type "type") "__init__" with
  | some (.val v) => v == .builtin "ValueError.__init__"
  | _ => false))
theorem seB_ok {K : PySem.W.Frag} {S : Addr} (h : seB K S = true) : SeC K S := by
  unfold seB at h
  simp only [Bool.and_eq_true, decide_eq_true_eq] at h
  obtain ⟨h1, h2, h3⟩ := h
  refine ⟨h1, h2, ?_⟩
  split at h3
  · rename_i v e
    rw [e, beq_iff_eq.mp h3]
  · cases h3
/-- what the promise of a raise leans on -/
def exB (K : PySem.W.Frag) (x : Str) (fs : List Str) : Bool := oexB K (He.ga K x) && (fs.all (fun f => decide (PySem.W.findIn K (.ref (He.ga K x)) f = some none)) && (decide (PySem.W.findIn K (.ref (He.ga K x)) "__init__" = some (some (.ref (He.ma K (He.ga K x) "__init__")))) && decide (PySem.W.typeIn K (.ref (He.ma K (He.ga K x) "__init__")) = some (.type "function"))))
/-- raise x(..) -/
def RaG (P : Program) (w : World) (K : PySem.W.Frag) (mg : Str → Option Value) (base : Heap) (x : Str) (fs : List Str) : Prop := ∃ (C fI : Addr) (fd : FuncData) (ps : List Str), fs ≠ [] ∧ fs.length ≤ 900 ∧ mg x = some (.ref C) ∧ OexC K C ∧ (∀ f ∈ fs, PySem.W.findIn K (.ref C) f = some none) ∧
  PySem.W.findIn K (.ref C) "__init__" = some (some (.ref fI)) ∧ PySem.W.typeIn K (.ref fI) = some (.type "function") ∧ FnOk P w K mg base CX0 1 fI fd ps (spI K fs) ∧ Binds K fd ps []
theorem rac {X : Cx} {x : Str} {fs : List Str} {j : Nat} (h : RaG X.prog X.w X.K X.mg X.base x fs) (hr : Room j X.A) (hj : 2 ≤ j) : RaC X x fs := by
  obtain ⟨C, fI, fd, ps, h1, h2, h3, h4, h5, h6, h7, h8, h9⟩ := h
  exact rac_of h1 h2 h3 h4 h5 h6 h7 h8 (hr.mono hj) h9
theorem rag_of {P : Program} {w : World} {K : PySem.W.Frag} {mg : Str → Option Value} {base : Heap} {x : Str} {fs : List Str} {fd : FuncData} {ps : List Str} (hne : fs ≠ []) (hl : fs.length ≤ 900) (gm : mg x = some (.ref (He.ga K x))) (c : exB K x fs = true)
    (F : FnOk P w K mg base CX0 1 (He.ma K (He.ga K x) "__init__") fd ps (spI K fs)) (b : Binds K fd ps []) : RaG P w K mg base x fs := by
  unfold exB at c
  simp only [Bool.and_eq_true, decide_eq_true_eq, List.all_eq_true] at c
  obtain ⟨c1, c2, c3, c4⟩ := c
  exact ⟨_, _, fd, ps, hne, hl, gm, oexB_ok c1, c2, c3, c4, F, b⟩
/-- the table of a try -/
def xtB (K : PySem.W.Frag) (tbl : XTb) (xs : List Str) : Bool := tbl.all fun t => (t.2.1.isEmpty || xfB K (He.ga K t.1)) && (t.2.1.all (fun f => decide (PySem.W.findIn K (.ref (He.ga K t.1)) f = some none)) && (decide (t.2.2.length = xs.length) && (xs.zip t.2.2).all fun p => decide (PySem.W.exmOne K (.ref (He.ga K t.1)) (.ref (He.ga K p.1)) = some p.2)))
theorem xtok_of {K : PySem.W.Frag} {mg : Str → Option Value} {tbl : XTb} {xs : List Str} (h : xtB K tbl xs = true) (hx : ∀ x ∈ xs, mg x = some (.ref (He.ga K x))) (ht : ∀ t ∈ tbl, mg t.1 = some (.ref (He.ga K t.1))) : XtOk K mg tbl xs := by
  refine ⟨fun x hm => ⟨_, hx x hm⟩, fun t tm C eC => ?_⟩
  have h := List.all_eq_true.mp h t tm
  simp only [Bool.and_eq_true, decide_eq_true_eq, List.all_eq_true, Bool.or_eq_true] at h
  obtain ⟨h1, h2, h3, h4⟩ := h
  rw [ht t tm] at eC
  cases eC
  refine ⟨⟨fun ne => ?_, h2⟩, h3, fun p hp C2 e2 => ?_⟩
  · rcases h1 with h1 | h1
    · rw [List.isEmpty_iff] at h1; exact absurd h1 ne
    · exact xfB_ok h1
  · rw [hx p.1 (List.of_mem_zip hp).1] at e2
    cases e2
    exact h4 p hp
theorem ott_of {K : PySem.W.Frag} {xs : List Str} (h : (xs.all fun x => otB K (He.ga K x)) = true) : OtT K xs := fun x hx => otB_ok (List.all_eq_true.mp h x hx)
/-! ### the hook, with a check of one's own -/
def frC (g : Addr → Option Obj) (n : Nat) : PySem.W.Frag := frL g (He.asD g n ++ [cStatics])
def obsC (n : Nat) (fa : List He.Fa) (fn : List He.DefD) (chk : PySem.W.Frag → Bool) (g : Addr → Option Obj) : He.AlD × Bool := (He.obsD fa fn (frC g n), chk (frC g n))
def hookC (n : Nat) (fa : List He.Fa) (fn : List He.DefD) (chk : PySem.W.Frag → Bool) : PySem.W.Hook where
  α := He.AlD × Bool
  obs := fun s => obsC n fa fn chk s.heap.get?
  val := fun _ => (He.valD fn, true)
  says := fun _ h => ∃ K : PySem.W.Frag, K.In h ∧ He.SaysD fa fn K ∧ NoL K ∧ chk K = true
  of := fun _ _ e => ⟨_, fun _ _ h => (frL_mem h).1, congrArg (fun z : He.AlD × Bool => z.1) e, fun _ _ h => (frL_mem h).2, congrArg (fun z : He.AlD × Bool => z.2) e⟩
  keeps := fun _ _ _ ⟨K, hK, c, n, t⟩ k => ⟨K, PySem.W.Frag.In.keeps hK k, c, n, t⟩
theorem obsC_eq {n : Nat} {fa : List He.Fa} {fn : List He.DefD} {chk : PySem.W.Frag → Bool} {g : Addr → Option Obj} {s : Shared} (h : ∀ a, g a = s.heap.get? a) : obsC n fa fn chk g = (hookC n fa fn chk).obs s := by
  have e : g = s.heap.get? := funext h
  rw [e] <;> rfl
abbrev ClGX (P : Program) (w : World) (K : PySem.W.Frag) (mg : Str → Option Value) (base : Heap) (k : Nat) (x : Str) (n : Nat) (F : Fn) : Prop :=
  ∃ (f : Addr) (fd : FuncData) (ps : List Str), FnG P w K mg base (L2.CX P w) k f fd ps (spX K mg n F) ∧ mg x = some (.ref f) ∧ PySem.W.keepIn K (.ref f) = true ∧ Binds K fd ps []
theorem clX_of {P : Program} {w : World} {K : PySem.W.Frag} {mg : Str → Option Value} {base : Heap} {k n : Nat} {x : Str} {st : Stmt} {f : Addr} {fd : FuncData} {ps : List Str} {F : Fn} (D : FnP K x st f fd) (gm : mg x = some (.ref f)) (h : FnG P w K mg base (L2.CX P w) k f fd ps (spX K mg n F))
    (b : ∀ (kV doc pm : Value) (an : Option Addr) (cdv ct : Value) (us : List Value), us.length = ps.length → bindArgs (PySem.W.fnOf x x (defArgs st) (defBody st) (defScope st) .none kV doc pm an cdv ct) ⟨us, []⟩ = pure (ps.zip us)) : ClGX P w K mg base k x n F :=
  ⟨f, fd, ps, h, gm, D.kp, D.bindsN b⟩
end FW

set_option maxHeartbeats 4000000
namespace FW
open PySem PySem.Spec L2

/-! ### texts: sign by sign, a sign in a text, split, a op b op c, the module's texts and numbers -/
def sgnsD (x : Str) : List D := x.cps.toList.map fun c => D.str ⟨#[c]⟩
def iSeqS (m : M D) : M Itm := xbnd m fun d _ st => match d with
  | .str x => some (.ok ⟨sgnsD x, []⟩, st)
  | _ => none
theorem itOk_str {K : PySem.W.Frag} {r : Ad} {H : Hp} (x : Str) : ItOk K r H ⟨sgnsD x, []⟩ (Its x) := by
  intro r1 H1 st1 S t hh
  refine ⟨fun i hi => ?_, fun i d hd => ?_⟩
  · simp only [sgnsD, List.length_map, Array.length_toList] at hi
    exact hi
  · simp only [sgnsD, List.getElem?_map, Array.getElem?_toList] at hd
    obtain ⟨c, e, rfl⟩ := Option.map_eq_some_iff.mp hd
    refine ⟨(Array.getElem?_eq_some_iff.mp e).1, fun v H2 hy => ?_⟩
    obtain ⟨rfl, c', e', rfl⟩ := hy
    rw [e] at e'
    cases e'
    exact ⟨S, Ext.refl _ _ _, by simp only [RD]⟩
section
variable {X : Cx} {EW : EWt}
theorem i_str {tg a : Expr} {m : M D} (h : E X EW a m) : I_ X EW tg a (iSeqS m) := by
  refine PI.weak (pi_str h) ?_
  rintro σ H Q ⟨r, e, st, out, st', S, hE, h, P⟩
  refine bnd_stepI S hE h P fun r1 H1 v d st1 S1 x1 hE1 hd h1 => ?_
  cases d with
  | str x =>
    cases h1
    simp only [RD] at hd
    exact ⟨x, hd, P r1 H1 _ S1 x1 (itOk_str x)⟩
  | _ => cases h1
/-- a sign in a text -/
def oInS (neg : Bool) : F2 := fun x y st => match x, y with
  | .str a, .str z => match a.cps.toList with
    | [c] => some (.bl (if neg then !decide (c ∈ z.cps.toList) else decide (c ∈ z.cps.toList)), st)
    | _ => none
  | _, _ => none
theorem one_sign {a : Str} {c : Nat} (h : a.cps.toList = [c]) : a = ⟨#[c]⟩ := by
  obtain ⟨x⟩ := a
  congr
  have : x = ([c] : List Nat).toArray := by rw [← h]
  exact this
theorem oInS_ok {K : PySem.W.Frag} : OpS K rInS (oInS false) := by
  intro r H st d c x y z st' Q S hd hc h P
  unfold oInS at h
  split at h
  · rename_i a w
    split at h
    · rename_i k e
      cases h
      simp only [RD] at hd hc
      subst hd hc
      exact ⟨k, w, by rw [one_sign e], rfl, P.bl S⟩
    · cases h
  · cases h
theorem oNInS_ok {K : PySem.W.Frag} : OpS K rNotInS (oInS true) := by
  intro r H st d c x y z st' Q S hd hc h P
  unfold oInS at h
  split at h
  · rename_i a w
    split at h
    · rename_i k e
      cases h
      simp only [RD] at hd hc
      subst hd hc
      exact ⟨k, w, by rw [one_sign e], rfl, P.bl S⟩
    · cases h
  · cases h
/-! the module's texts and numbers -/
theorem e_strG {x z : Str} {pos : Pos} (h : ∃ t, X.mg x = some (.str z t)) (hg : Gl X x) (hd : (x == ("__debug__" : Str)) = false := by decide) : E X EW (.Name x pos) (xC (.str z)) := by
  obtain ⟨t, hm⟩ := h
  exact e_glob (v := .str z) hg hm ⟨t, rfl⟩ (fun r H => by simp only [RD]) hd
theorem e_intG {x : Str} {i : Int} {pos : Pos} (h : ∃ t, X.mg x = some (.int i t)) (hg : Gl X x) (hd : (x == ("__debug__" : Str)) = false := by decide) : E X EW (.Name x pos) (xC (.int i)) := by
  obtain ⟨t, hm⟩ := h
  exact e_glob (v := .int i) hg hm ⟨t, rfl⟩ (fun r H => by simp only [RD]) hd
/-! a op b op c -/
def xChn (f g : F2) (a b c : M D) : M Bool := fun e st => bnd (a e st) fun x st1 => bnd (b e st1) fun y st2 => bnd (ok0 (f x y st2)) fun z st3 => match z with
  | .bl false => some (.ok false, st3)
  | .bl true => bnd (c e st3) fun w st4 => bnd (ok0 (g y w st4)) fun z2 st5 => match z2 with
    | .bl k => some (.ok k, st5)
    | _ => none
  | _ => none
end
theorem t_chn {X : Cx} {EW : EWt} {a b c : Expr} {op op' : CmpOp} {pos : Pos} {rr rr' : R2} {f g : F2} {ma mb mc : M D} (ho : OpR X (compareOp op) rr) (hf : OpS X.K rr f) (ho' : OpR X (compareOp op') rr') (hg : OpS X.K rr' g) (ha : E X EW a ma) (hb : E X EW b mb) (hc : E X EW c mc)
    (hm : lastMarks [op, op'] [b, c] = false := by with_unfolding_all rfl) : T X EW (.Compare a [op, op'] [b, c] pos) (xChn f g ma mb mc) := by
  refine PT.weak (pt_chain ho ho' ha hb hc hm) ?_
  rintro σ H Q ⟨r, e, st, out, st', S, hE, h, P⟩
  refine bnd_step S hE h P fun r1 H1 x d st1 S1 x1 hE1 hd h1 P1 => bnd_step S1 hE1 h1 P1 fun r2 H2 y w st2 S2 x2 hE2 hw h2 P2 => ?_
  cases q : f d w st2 with
  | none => rw [q] at h2; cases h2
  | some p =>
    obtain ⟨z, st3⟩ := p
    rw [q] at h2
    refine hf r2 H2 st2 d w x y z st3 _ S2 (hd.mono x2) hw q fun r3 H3 v S3 x3 hz => ?_
    cases z with
    | bl k =>
      simp only [RD] at hz
      subst hz
      refine ⟨k, rfl, ?_⟩
      cases k with
      | false =>
        rw [if_neg Bool.false_ne_true]
        cases h2
        exact ⟨false, rfl, P2 r3 H3 false S3 x3 rfl⟩
      | true =>
        rw [if_pos rfl]
        have h3 : bnd (mc e st3) _ = _ := h2
        refine bnd_step S3 (hE2.mono x3) h3 (P2.later S2 S3 x3) fun r4 H4 u c4 st4 S4 x4 hE4 hu h4 P4 => ?_
        cases q2 : g w c4 st4 with
        | none => rw [q2] at h4; cases h4
        | some p =>
          obtain ⟨z2, st5⟩ := p
          rw [q2] at h4
          refine hg r4 H4 st4 w c4 y u z2 st5 _ S4 ((hw.mono x3).mono x4) hu q2 fun r5 H5 v5 S5 x5 hz5 => ?_
          cases z2 with
          | bl k =>
            simp only [RD] at hz5
            subst hz5
            cases h4
            exact ⟨k, rfl, P4 r5 H5 k S5 x5 rfl⟩
          | _ => cases h4
    | _ => cases h2
def xBl (m : M Bool) : M D := fun e st => bnd (m e st) fun b st1 => some (.ok (.bl b), st1)
theorem e_chn {X : Cx} {EW : EWt} {a b c : Expr} {op op' : CmpOp} {pos : Pos} {rr rr' : R2} {f g : F2} {ma mb mc : M D} (ho : OpR X (compareOp op) rr) (hf : OpS X.K rr f) (ho' : OpR X (compareOp op') rr') (hg : OpS X.K rr' g) (ha : E X EW a ma) (hb : E X EW b mb) (hc : E X EW c mc)
    (hm : lastMarks [op, op'] [b, c] = false := by with_unfolding_all rfl) : E X EW (.Compare a [op, op'] [b, c] pos) (xBl (xChn f g ma mb mc)) := by
  refine PE.weak (pe_chain ho ho' ha hb hc hm) ?_
  rintro σ H Q ⟨r, e, st, out, st', S, hE, h, P⟩
  have h' : bnd (ma e st) (fun x st1 => bnd (mb e st1) fun y st2 => bnd (ok0 (f x y st2)) fun z st3 => match z with
      | .bl false => some (.ok (.bl false), st3)
      | .bl true => bnd (mc e st3) fun w st4 => bnd (ok0 (g y w st4)) fun z2 st5 => match z2 with
        | .bl k => some (.ok (.bl k), st5)
        | _ => none
      | _ => none) = some (out, st') := by
    rw [← h]
    unfold xBl xChn
    cases ma e st with
    | none => rfl
    | some p =>
      obtain ⟨o, s1⟩ := p
      cases o with
      | exc x => rfl
      | ok d =>
        show bnd (mb e s1) _ = bnd (bnd (mb e s1) _) _
        cases mb e s1 with
        | none => rfl
        | some p =>
          obtain ⟨o, s2⟩ := p
          cases o with
          | exc x => rfl
          | ok d2 =>
            show bnd (ok0 (f d d2 s2)) _ = bnd (bnd (ok0 (f d d2 s2)) _) _
            cases ok0 (f d d2 s2) with
            | none => rfl
            | some p =>
              obtain ⟨o, s3⟩ := p
              cases o with
              | exc x => rfl
              | ok z =>
                cases z with
                | bl k =>
                  cases k with
                  | false => rfl
                  | true =>
                    show bnd (mc e s3) _ = bnd (bnd (mc e s3) _) _
                    cases mc e s3 with
                    | none => rfl
                    | some p =>
                      obtain ⟨o, s4⟩ := p
                      cases o with
                      | exc x => rfl
                      | ok w =>
                        show bnd (ok0 (g d2 w s4)) _ = bnd (bnd (ok0 (g d2 w s4)) _) _
                        cases ok0 (g d2 w s4) with
                        | none => rfl
                        | some p =>
                          obtain ⟨o, s5⟩ := p
                          cases o with
                          | exc x => rfl
                          | ok z2 => cases z2 <;> rfl
                | _ => rfl
  refine bnd_step S hE h' P fun r1 H1 x d st1 S1 x1 hE1 hd h1 P1 => bnd_step S1 hE1 h1 P1 fun r2 H2 y w st2 S2 x2 hE2 hw h2 P2 => ?_
  cases q : f d w st2 with
  | none => rw [q] at h2; cases h2
  | some p =>
    obtain ⟨z, st3⟩ := p
    rw [q] at h2
    refine hf r2 H2 st2 d w x y z st3 _ S2 (hd.mono x2) hw q fun r3 H3 v S3 x3 hz => ?_
    cases z with
    | bl k =>
      simp only [RD] at hz
      subst hz
      refine ⟨k, rfl, ?_⟩
      cases k with
      | false =>
        rw [if_neg Bool.false_ne_true]
        cases h2
        exact P2 r3 H3 (.bl false) S3 x3 (by simp only [RD])
      | true =>
        rw [if_pos rfl]
        have h3 : bnd (mc e st3) _ = _ := h2
        refine bnd_step S3 (hE2.mono x3) h3 (P2.later S2 S3 x3) fun r4 H4 u c4 st4 S4 x4 hE4 hu h4 P4 => ?_
        cases q2 : g w c4 st4 with
        | none => rw [q2] at h4; cases h4
        | some p =>
          obtain ⟨z2, st5⟩ := p
          rw [q2] at h4
          refine hg r4 H4 st4 w c4 y u z2 st5 _ S4 ((hw.mono x3).mono x4) hu q2 fun r5 H5 v5 S5 x5 hz5 => ?_
          cases z2 with
          | bl k =>
            simp only [RD] at hz5
            subst hz5
            cases h4
            exact P4 r5 H5 (.bl k) S5 x5 (by simp only [RD])
          | _ => cases h4
    | _ => cases h2
/-! x.split(sep), a new list -/
def FoM := D → List D → Store → Option Ob
def oSplit : FoM := fun d as st => match d, as with
  | .str a, [.str b] => if (b.length == 0) = false ∧ a.length + 2 ≤ sizeLine then some (.lst ((Txt.split a b).map D.str)) else none
  | _, _ => none
def fMth (f : FoM) (mo me : M D) : M Ob := fun e st => bnd (mo e st) fun d st1 => match d with
  | .str a => bnd (me e st1) fun c st2 => match f (.str a) [c] st2 with
    | some ob => some (.ok ob, st2)
    | none => none
  | _ => none
theorem f_split {X : Cx} {EW : EWt} {o a : Expr} {apos pos : Pos} {mo me : M D} (ho : E X EW o mo) (he : E X EW a me) (hs : starEach [a] X.env = [(false, eval a X.env)] := by rfl) (hbase : attributeBase o "split" X.env (eval o X.env) = eval o X.env := by rfl) (hline : (apos.endLine == pos.line) = true := by rfl) :
    EF X EW (.Call (.Attribute o "split" apos) [a] [] pos) (fMth oSplit mo me) := by
  refine PE.weak (pe_m1 F.slot_str_split F.type_str_split mt_split ho he hs hbase hline) ?_
  rintro σ H Q ⟨r, e, st, out, st', S, hE, h, P⟩
  refine bnd_stepO S hE h P fun r1 H1 x d st1 S1 x1 hE1 hd h1 => ?_
  cases d with
  | str a =>
    simp only [RD] at hd
    subst hd
    refine ⟨⟨a, rfl⟩, bnd_stepO S1 hE1 h1 (P.later S S1 x1) fun r2 H2 y c st2 S2 x2 hE2 hc h2 => ?_⟩
    cases c with
    | str b =>
      simp only [RD] at hc
      subst hc
      dsimp only [oSplit] at h2
      split at h2
      · rename_i ob e2
        cases h2
        split at e2
        · rename_i hh
          cases e2
          refine ⟨a, b, rfl, rfl, hh.1, hh.2, fun p hp => ?_⟩
          exact (P.later S S1 x1).lay S1 S2 x2 hp ⟨_, rfl, RDs.ofStrs _⟩
        · cases e2
      · cases h2
    | _ => cases h2
  | _ => cases h1
end FW

set_option maxHeartbeats 4000000
namespace FW
open PySem PySem.Spec L2

/-! ### texts: a text of at most one sign in a text, a text times a number, int of figures -/
theorem occ_nil (z : Str) : (Builtin.Str.occurrences z ⟨#[]⟩ 0 z.length 1).isEmpty = false := by
  unfold Builtin.Str.occurrences
  simp only [Std.Legacy.Range.forIn_eq_forIn_range', Std.Legacy.Range.size]
  simp only [Nat.sub_zero, Nat.add_sub_cancel, Nat.div_one, Nat.add_zero]
  rw [show List.range' 0 (z.length + 1) 1 = 0 :: List.range' 1 z.length 1 from rfl]
  rw [List.forIn_cons]
  have s0 : Builtin.Str.subAt z ⟨#[]⟩ 0 = true := by
    unfold Builtin.Str.subAt
    have : z.cps.extract 0 (0 + (⟨#[]⟩ : Str).length) = #[] := by
      show z.cps.extract 0 0 = #[]
      simp
    rw [this]
    rfl
  have key : ∀ (l : List Nat) (s : Array Nat × Nat), 1 ≤ s.1.size → ((forIn l s fun i (__s : Array Nat × Nat) => if (decide (__s.fst.size < 1) && decide (__s.snd ≤ i) && decide (i + (⟨#[]⟩ : Str).length ≤ z.length) && Builtin.Str.subAt z ⟨#[]⟩ i) = true then (pure (ForInStep.yield (__s.fst.push i, i + (⟨#[]⟩ : Str).length)) : Id _) else pure (ForInStep.yield (__s.fst, __s.snd))) : Id _) = s := by
    intro l
    induction l with
    | nil => intro s _; rfl
    | cons i l ih =>
      intro s hs
      rw [List.forIn_cons]
      have : decide (s.1.size < 1) = false := decide_eq_false (by omega)
      rw [this]
      exact ih s hs
  have l0 : (⟨#[]⟩ : Str).length = 0 := rfl
  rw [if_pos (by rw [s0, l0]; simp)]
  have k := key (List.range' 1 z.length 1) ((#[], 0).fst.push 0, 0 + (⟨#[]⟩ : Str).length) (by simp)
  show (List.isEmpty (Id.run (do let __s ← (forIn (List.range' 1 z.length 1) ((#[], 0).fst.push 0, 0 + (⟨#[]⟩ : Str).length) _ : Id _); pure __s.fst.toList))) = false
  rw [k]
  rfl
/-- a text of at most one sign in a text -/
def oInS1 (neg : Bool) : F2 := fun x y st => match x, y with
  | .str a, .str z => match a.cps.toList with
    | [c] => some (.bl (if neg then !decide (c ∈ z.cps.toList) else decide (c ∈ z.cps.toList)), st)
    | [] => some (.bl (!neg), st)
    | _ => none
  | _, _ => none
def rInS1 : R2 := fun x y H Q => rInS x y H Q ∨ ∃ i j, x = .str i ∧ y = .str j ∧ Q (.bl (!(Builtin.Str.occurrences j i 0 j.length 1).isEmpty)) H
def rNInS1 : R2 := fun x y H Q => rNotInS x y H Q ∨ ∃ i j, x = .str i ∧ y = .str j ∧ Q (.bl (!(!(Builtin.Str.occurrences j i 0 j.length 1).isEmpty))) H
theorem op_inS1 {X : Cx} : OpR X (compareOp .In) rInS1 := OpR.or op_inS op_in_str
theorem op_ninS1 {X : Cx} : OpR X (compareOp .NotIn) rNInS1 := OpR.or op_notInS op_notin_str
theorem no_sign {a : Str} (h : a.cps.toList = []) : a = ⟨#[]⟩ := by
  obtain ⟨x⟩ := a
  congr
  exact Array.toList_eq_nil_iff.mp h
theorem oInS1_ok {K : PySem.W.Frag} : OpS K rInS1 (oInS1 false) := by
  intro r H st d c x y z st' Q S hd hc h P
  unfold oInS1 at h
  split at h
  · rename_i a w
    split at h
    · rename_i k e
      cases h
      simp only [RD] at hd hc
      subst hd hc
      exact .inl ⟨k, w, by rw [one_sign e], rfl, P.bl S⟩
    · rename_i e
      cases h
      simp only [RD] at hd hc
      subst hd hc
      refine .inr ⟨_, w, rfl, rfl, ?_⟩
      rw [no_sign e, occ_nil]
      exact P.bl S
    · cases h
  · cases h
theorem oNInS1_ok {K : PySem.W.Frag} : OpS K rNInS1 (oInS1 true) := by
  intro r H st d c x y z st' Q S hd hc h P
  unfold oInS1 at h
  split at h
  · rename_i a w
    split at h
    · rename_i k e
      cases h
      simp only [RD] at hd hc
      subst hd hc
      exact .inl ⟨k, w, by rw [one_sign e], rfl, P.bl S⟩
    · rename_i e
      cases h
      simp only [RD] at hd hc
      subst hd hc
      refine .inr ⟨_, w, rfl, rfl, ?_⟩
      rw [no_sign e, occ_nil]
      exact P.bl S
    · cases h
  · cases h
/-! int(x) -/
def fIntS : Fn0 := fun as st => match as with
  | [.str x] => match PySem.intText? x with
    | some n => if x.length ≤ 640 then some (.int n, st) else none
    | none => none
  | as => fInt as st
def rIntS : List V → Hp → VK → Prop := fun xs H Q => rInt xs H Q ∨ ∃ a n, xs = [.str a] ∧ PySem.intText? a = some n ∧ a.length ≤ 640 ∧ Q (.int n) H
theorem cr_intS {X : Cx} : CallR X (.type "int") rIntS := CallR.or call_int1 call_int_str
theorem fIntS_ok {K : PySem.W.Frag} : CallS K rIntS fIntS := by
  intro r H st ds vs z st' Q S hs h P
  unfold fIntS at h
  split at h
  · rename_i x
    split at h
    · rename_i n e
      split at h
      · rename_i hl
        cases h
        obtain ⟨v, rfl, hv⟩ := hs.one
        simp only [RD] at hv
        subst hv
        exact .inr ⟨x, n, rfl, e, hl, P.int S⟩
      · cases h
    · cases h
  · exact .inl (fInt_ok r H st ds vs z st' Q S hs h P)
/-! a text times a number -/
def strRep (x : Str) (k : Nat) : Str := ⟨(List.replicate k x.cps).foldl (· ++ ·) #[]⟩
theorem op_mulS {X : Cx} : OpR X (binaryOp .Mult) (fun x y H Q => ∃ (z : Str) (k : Int), x = .str z ∧ y = .int k ∧ 2 ≤ k ∧ 1 ≤ z.length ∧ (z.length : Int) * k ≤ 1000000 ∧ Q (.str (strRep z k.toNat)) H) := by
  intro pins s σ H x y v u Q I rx ry h
  obtain ⟨z, k, rfl, rfl, h1, h2, h3, q⟩ := h
  obtain ⟨t, rfl⟩ := rx
  obtain ⟨t', rfl⟩ := ry
  have hk : k ≤ 1000000 := by
    have : (1 : Int) * k ≤ (z.length : Int) * k := Int.mul_le_mul_of_nonneg_right (by omega) (by omega)
    omega
  have hz : (z.length : Int) ≤ 1000000 := by
    have : (z.length : Int) * 1 ≤ (z.length : Int) * k := Int.mul_le_mul_of_nonneg_left (by omega) (by omega)
    omega
  have hm : z.length * k.toNat ≤ 1000000 := by
    have e : ((z.length * k.toNat : Nat) : Int) = (z.length : Int) * k := by rw [Int.natCast_mul, Int.toNat_of_nonneg (by omega)]
    omega
  have nz : (k == 1 || z.length == 0) = false := by
    rw [Bool.or_eq_false_iff]
    exact ⟨beq_eq_false_iff_ne.mpr (by omega), beq_eq_false_iff_ne.mpr (by omega)⟩
  refine PySem.P.mul_str (by rw [decide_eq_false (by omega), decide_eq_false (by omega)] <;> rfl) (fun _ _ => ?_) (fun _ _ => ?_) ?_
  · have hd : (1000000 : Int) ≤ (2 ^ 63 - 1) / k := by
      have := (Int.le_ediv_iff_mul_le (a := (1000000 : Int)) (b := 2 ^ 63 - 1) (c := k) (by omega)).mpr (by omega)
      exact this
    omega
  · unfold Builtin.Str.tooLong
    rw [sizeLine_eq]
    exact decide_eq_false (by omega)
  · rw [if_neg (by omega), if_neg (by rw [nz]; decide)]
    have fl : ((List.replicate k.toNat z.cps).foldl (· ++ ·) #[]).size = z.length * k.toNat := by
      have : ∀ (n : Nat) (a : Array Nat), ((List.replicate n z.cps).foldl (· ++ ·) a).size = a.size + z.length * n := by
        intro n
        induction n with
        | zero => intro a; simp
        | succ n ih =>
          intro a
          rw [List.replicate_succ, List.foldl_cons, ih, Array.size_append, Nat.mul_add]
          show a.size + z.length + _ = _
          omega
      rw [this]
      simp
    refine ⟨?_, ?_⟩
    · show ((List.replicate k.toNat z.cps).foldl (· ++ ·) #[]).size ≤ sizeLine
      rw [fl, sizeLine_eq]
      omega
    · exact ⟨.str _, H, I.tok _, ⟨_, rfl⟩, q⟩
def oMulS : F2 := fun x y st => match x, y with
  | .str z, .int k => if 2 ≤ k ∧ 1 ≤ z.length ∧ (z.length : Int) * k ≤ 1000000 then some (.str (strRep z k.toNat), st) else none
  | x, y => oMul x y st
def rMulS (K : PySem.W.Frag) : R2 := fun x y H Q => rMulAll K x y H Q ∨ ∃ (z : Str) (k : Int), x = .str z ∧ y = .int k ∧ 2 ≤ k ∧ 1 ≤ z.length ∧ (z.length : Int) * k ≤ 1000000 ∧ Q (.str (strRep z k.toNat)) H
theorem op_mulSA {X : Cx} : OpR X (binaryOp .Mult) (rMulS X.K) := OpR.or op_mulAll op_mulS
theorem oMulS_ok {K : PySem.W.Frag} : OpS K (rMulS K) oMulS := by
  intro r H st d c x y z st' Q S hd hc h P
  unfold oMulS at h
  split at h
  · rename_i w k
    split at h
    · rename_i hh
      cases h
      simp only [RD] at hd hc
      subst hd hc
      exact .inr ⟨w, k, rfl, rfl, hh.1, hh.2.1, hh.2.2, P.str S⟩
    · cases h
  · exact .inl (oMul_ok r H st d c x y z st' Q S hd hc h P)
end FW

set_option maxHeartbeats 4000000
namespace FW
open PySem PySem.Spec PyProof.Rows L2
open AutoSeq1 (wpAny_loadPart')

/-! ### enumerate: of a tuple, too -/
theorem tup_draws {prog : Program} {w : World} {A : Around} {it l : Addr} {items : Array Value} (hne : l ≠ it) (hh : A.handled = none) :
    Draws prog w A it [it, l] items.size (fun i x => items[i]? = some x) (fun i h => h.IsTupleIter it l i ∧ h.IsTuple l items) where
  live := fun i h st => let ⟨⟨o, ho, _⟩, _⟩ := st; ⟨o, ho⟩
  frame := fun i h h' st k => ⟨st.1.at fun o q => k it (by simp) o q, let ⟨o, ho, r⟩ := st.2; ⟨o, k l (by simp) o ho, r⟩⟩
  item := fun i s Q E hi st hQ => RZ.nextOf_tuple_item st.1 st.2 (x := items[i]) (by simp [hi]) fun h' hit sb => hQ _ h' s.toks (by simp [hi]) ⟨hit, st.2.extBut sb.extBut hne⟩ sb
  done := fun s Q E st hE => RZ.nextOf_tuple_end hh st.1 st.2 (by simp) hE

theorem meets_enumerate_newT (l : Addr) (items : Array Value) (n : Nat) (dct : Option Addr) (sl : Array (Option Value)) :
    Meets (Builtin.«enumerate.__new__» ⟨[.type "enumerate", .ref l], []⟩) (fun _ R s => s.heap.get? l = some { cls := .type "tuple", dict := dct, data := .seq items n, slots := sl } ∧
      R (.ok (.ret (.ref (s.heap.push { cls := .type "tuple_iterator", data := .fields #[.ref l, .int 0 0] }).objs.size)))
        { s with heap := (s.heap.push { cls := .type "tuple_iterator", data := .fields #[.ref l, .int 0 0] }).push { cls := .type "enumerate", data := .fields #[.none, .bool false, .ref s.heap.objs.size, rawInt 0, .none, .none] } }) :=
  .of_wp fun prog w A R s h => by
    obtain ⟨hp, g, d, tk, os⟩ := s; obtain ⟨hl, h⟩ := h
    have hsub := sub_enumerate
    have hL : Heap.IsTuple (Shared.heap ⟨hp, g, d, tk, os⟩) l items := ⟨_, hl, rfl, n, rfl⟩
    wp_walk using wpAny_loadPart' hl
    refine wpAny_stack_any fun st => wpAny_pure ?_
    split
    · rename_i c _ _ _ _ _
      cases (c == Value.type "enumerate")
      · wp_walk using wpAny_loadPart' hl, wpAny_pyIter_tuple hL
        exact ⟨_, rfl, h⟩
      · wp_walk using wpAny_loadPart' hl, wpAny_pyIter_tuple hL
        exact ⟨_, rfl, h⟩
    · wp_walk using wpAny_loadPart' hl, wpAny_pyIter_tuple hL
      exact ⟨_, rfl, h⟩
theorem call_enumerate_tuple {prog : Program} {w : World} {A : Around} {E : Value → Shared → Prop} {s : Shared} {l : Addr} {items : Array Value} {Q : Value → Shared → Prop} (hL : s.heap.IsTuple l items)
    (h : ∀ h', IsEnum h' (s.heap.objs.size + 1) s.heap.objs.size 0 .none → h'.IsTupleIter s.heap.objs.size l 0 → h'.objs.size = s.heap.objs.size + 2 →
      (∀ b o, s.heap.get? b = some o → h'.get? b = some o) → Q (.ref (s.heap.objs.size + 1)) { s with heap := h' }) :
    wpAny (model prog w) A (call (.type "enumerate") [.ref l]) Q E s := by
  obtain ⟨⟨c, dct, dt, sl⟩, hl, hc, n, hd⟩ := hL
  replace hc : c = .type "tuple" := hc
  replace hd : dt = .seq items n := hd
  subst hc hd
  refine callType_new F.called_enumerate (by decide) (F.typeCall_enumerate_1 _) (F.newCall_enumerate_1 _) (fun obj => F.args_object_init_2 obj _) F.entry_enumerate_new
    (meets_enumerate_newT l items n dct sl) ⟨hl, ?_⟩
  have hz : (s.heap.push { cls := .type "tuple_iterator", data := .fields #[.ref l, .int 0 0] }).objs.size = s.heap.objs.size + 1 := Heap.size_push ..
  show _ ∧ _
  rw [hz]
  have he : IsEnum ((s.heap.push { cls := .type "tuple_iterator", data := .fields #[.ref l, .int 0 0] }).push
      { cls := .type "enumerate", data := .fields #[.none, .bool false, .ref s.heap.objs.size, rawInt 0, .none, .none] }) (s.heap.objs.size + 1) s.heap.objs.size 0 .none := by
    have := Heap.get?_push_size (s.heap.push { cls := .type "tuple_iterator", data := .fields #[.ref l, .int 0 0] })
      (o := { cls := .type "enumerate", data := .fields #[.none, .bool false, .ref s.heap.objs.size, rawInt 0, .none, .none] }) rfl
    rw [hz] at this; exact this
  refine ⟨⟨_, he, rfl⟩, h _ he ⟨_, Heap.get?_push_of_some _ (Heap.get?_push_size _ rfl), rfl, rfl⟩ (by rw [Heap.size_push, hz]) fun b o x => Heap.get?_push_of_some _ (Heap.get?_push_of_some _ x)⟩
/-- the tuple at a, each item in a new pair -/
def IteT (K : PySem.W.Frag) (a : Addr) : It :=
  ⟨fun i H => ∃ (xs : List V) (x : V), SqT K H a xs ∧ xs[i]? = some x, fun i H v H' => ∃ T x, v = .ref T ∧ H T = none ∧ H' = upd H T (.tup [.int (i : Nat), x]) ∧ ∀ xs, SqT K H a xs → xs[i]? = some x, fun i H => ∃ xs : List V, SqT K H a xs ∧ xs.length ≤ i⟩
theorem turn_enumT {P : Program} {w : World} {K : PySem.W.Frag} {elts : List Expr} {kk : Nat} {tpos : Pos} (a e it : Addr) :
    Turn P w K (.Tuple elts kk tpos) (IteT K a) [e, it] e (fun i h => (∃ old, IsEnum h e it ((i : Nat) : Int) old) ∧ h.IsTupleIter it a i ∧ e ≠ it) where
  mem := by simp
  obj := fun i h st b hb => by
    obtain ⟨⟨old, he⟩, ⟨o, ho, hc, hd⟩, _⟩ := st
    have e' : b = e ∨ b = it := by simpa using hb
    rcases e' with z | z
    · rw [z]; exact ⟨_, he, fun v q => nomatch q⟩
    · rw [z]; exact ⟨o, ho, fun v q => by rw [hd] at q; cases q⟩
  keep := fun i h h' st k => let ⟨⟨old, he⟩, hi, hne⟩ := st; ⟨⟨old, k e (by simp) _ he⟩, hi.at fun o q => k it (by simp) o q, hne⟩
  item := by
    intro X hP hw hK hc i pins s σ H E I hf st hg
    subst hP hw hK
    obtain ⟨⟨old, he⟩, hit, hne⟩ := st
    obtain ⟨xs, x, hq, hx⟩ := hg
    obtain ⟨its, rv, p, hz⟩ := I.tuple hq
    obtain ⟨u, hu, ru⟩ := rv.get hx
    have hel : e < s.heap.objs.size := Heap.lt_size he
    have hil : it < s.heap.objs.size := by obtain ⟨_, q, _⟩ := hit; exact Heap.lt_size q
    have pt : s.heap.IsTuple a its.toArray := p
    have nea : e ≠ a := fun z => by
      obtain ⟨o, ho, hc2, _⟩ := pt
      subst z
      have h2 := he
      unfold IsEnum at h2
      rw [h2] at ho
      cases ho
      injection hc2 with z
      exact absurd z (by decide)
    have nia : a ≠ it := fun z => by
      obtain ⟨o, ho, hc2, _⟩ := pt
      obtain ⟨o2, ho2, hc3, _⟩ := hit
      subst z
      rw [ho2] at ho
      cases ho
      rw [hc3] at hc2
      injection hc2 with z
      exact absurd z (by decide)
    have hlt : i < its.toArray.size := by
      have := (List.getElem?_eq_some_iff.mp hu).1
      simpa using this
    refine wpAny_pyNext_enum_itemD (tup_draws nia (I.ok.hd hc)) he ⟨hit, pt⟩ hlt hne (by simp [hne, nea]) fun y h' tk hy ho hst hT hsz hk => ?_
    have ey : y = u := by
      have : its.toArray[i]? = some u := by simpa using hu
      rw [hy] at this
      exact Option.some.inj this
    subst ey
    refine ⟨_, rfl, wpAny_letOwnedTupleGo_enum (s := { s with heap := h', toks := tk + 1 }) ho fun h'' he' sb => ?_⟩
    have hT2 : h''.get? s.heap.objs.size = some { cls := .type "tuple", data := .seq #[.int i tk, y] } := (sb.2 _ (Nat.ne_of_gt hel)).trans hT
    have new : ObjOk X.prog X.w (upd H s.heap.objs.size (.tup [.int (i : Nat), x])) h'' s.heap.objs.size (.tup [.int (i : Nat), x]) :=
      ⟨by show 2 ≤ sizeLine; decide, [.int i tk, y], .cons ⟨_, rfl⟩ (.cons ru .nil), ⟨_, hT2, rfl, _, rfl⟩⟩
    have I1 : Inv X pins σ (upd H s.heap.objs.size (.tup [.int (i : Nat), x])) { s with heap := h'', toks := tk + 1 } :=
      I.turnedNew (ch := [e, it]) (fun b ob hb q => (sb.2 b (fun z => hb (by simp [z]))).trans (hk b ob (fun z => hb (by simp [z])) (fun z => hb (by simp [z])) q)) hf (Nat.le_refl _) new
    refine ⟨.ref s.heap.objs.size, _, I1, rfl, ⟨_, x, rfl, I.hok.fresh (Nat.le_refl _), rfl, fun ys hy => by rw [I.tuple_inj hy hq]; exact hx⟩, ⟨⟨y, ?_⟩, hst.1.at fun o q => (sb.2 it (Ne.symm hne)).trans q, hne⟩, fun b hb => ?_⟩
    · have e1 : ((i + 1 : Nat) : Int) = (i : Int) + 1 := by omega
      rw [e1]; exact he'
    · have hb' : b < s.heap.objs.size := by
        have e' : b = e ∨ b = it := by simpa using hb
        rcases e' with z | z
        · rw [z]; exact hel
        · rw [z]; exact hil
      rw [upd_ne (Nat.ne_of_lt hb')]
      exact (hf b hb).1
  done := by
    intro X hP hw hK hc i pins s σ H E I hf st hg
    subst hP hw hK
    obtain ⟨⟨old, he⟩, hit, hne⟩ := st
    obtain ⟨xs, hq, hx⟩ := hg
    obtain ⟨its, rv, p, hz⟩ := I.tuple hq
    obtain ⟨f0, f1, f2, f3, f4, f5⟩ := hf it (by simp)
    have hl := rv.length
    have pt : s.heap.IsTuple a its.toArray := p
    have hT : s.TypeIs (.ref e) "enumerate" := ⟨_, he, rfl⟩
    unfold pyNext
    refine wpAny_bind (wpAny_attempt (wpAny_callSpecial?_slot (name := Str.ofString "__next__") hT F.slot_enumerate_next
      (wpAny_call_entry F.slot_enumerate_next hT F.entry_enumerate_next ?_ (F.args_enumerate_next_1 _))))
    show wpAny _ _ (field (.ref e) 2 >>= _) _ _ _
    refine wpAny_bind (wpAny_field he rfl (x := .ref it) rfl ?_)
    refine wpAny_bind (RZ.nextOf_tuple_end (I.ok.hd hc) hit pt (by simp; omega) fun h' x he' hx' => ?_)
    obtain ⟨o, ho, hc⟩ := hx'
    refine wpAny_bind (wpAny_isInstance (T := "StopIteration") (b := true) ⟨o, ho, hc⟩ isSubtype_stop ?_)
    exact wpAny_pure ⟨rfl, I.turned (t' := s.toks) (fun b o hb q => he' b o hb q) f0 f1 f3 f4 f5⟩
  self := fun A i s Q E st h => let ⟨⟨_, he⟩, _⟩ := st; wpAny_pyIter_enum he h
def iEnumA (K : PySem.W.Frag) (ta : TA) : TI := fun σ H R => ta σ H fun vs H1 => ∃ a xs, vs = [.ref a] ∧ ((SqL K H1 a xs ∧ R (Ite K a) H1) ∨ (SqT K H1 a xs ∧ R (IteT K a) H1))
theorem pi_enumA {X : Cx} {e : Expr} {ta : TA} {p pos tpos : Pos} {elts : List Expr} {kk : Nat} (hg : Gl X "enumerate") (hm : X.mg "enumerate" = none) (ha : PA X [e] ta) (hs : starEach [e] X.env = [(false, eval e X.env)] := by rfl) :
    PI X (.Tuple elts kk tpos) (.Call (.Name "enumerate" p) [e] [] pos) (iEnumA X.K ta) := by
  refine ⟨fun pins s σ H R I h => ?_⟩
  refine Call_ (ld_blt I hg hm boot_enumerate (PyProof.Rows.callWith_type1 (thn (ha.run pos pins s σ H _ I h) fun us s1 ⟨vs, H1, I1, r1, q1⟩ => ?_) hs rfl))
  obtain ⟨a, xs, ex, hq⟩ := q1
  subst ex
  cases r1 with
  | cons r rr =>
    cases rr
    cases r
    have fr : ∀ b, b ∈ [s1.heap.objs.size + 1, s1.heap.objs.size] → FpOk X pins H1 b := fun b hb => by
      have e' : b = s1.heap.objs.size + 1 ∨ b = s1.heap.objs.size := by simpa using hb
      have hle : s1.heap.objs.size ≤ b := by
        rcases e' with z | z
        · rw [z]; exact Nat.le_add_right _ _
        · rw [z]; exact Nat.le_refl _
      exact I1.fpOk hle (I1.hok.fresh hle)
    rcases hq with ⟨hq, q⟩ | ⟨hq, q⟩
    · obtain ⟨its, rv, p', hz⟩ := I1.list hq
      refine call_enumerate_list p'.isList fun h' he hit hsz hk => wpAny_pyIter_enum he ?_
      have I2 : Inv X pins σ H1 { s1 with heap := h' } := I1.kept (t' := s1.toks) hk
      exact ⟨s1.heap.objs.size + 1, [s1.heap.objs.size + 1, s1.heap.objs.size], _, _, H1, rfl, I2, turn_enum a (s1.heap.objs.size + 1) s1.heap.objs.size, ⟨⟨.none, he⟩, hit, Nat.succ_ne_self _⟩, fr, q⟩
    · obtain ⟨its, rv, p', hz⟩ := I1.tuple hq
      refine call_enumerate_tuple (show s1.heap.IsTuple a its.toArray from p') fun h' he hit hsz hk => wpAny_pyIter_enum he ?_
      have I2 : Inv X pins σ H1 { s1 with heap := h' } := I1.kept (t' := s1.toks) hk
      exact ⟨s1.heap.objs.size + 1, [s1.heap.objs.size + 1, s1.heap.objs.size], _, _, H1, rfl, I2, turn_enumT a (s1.heap.objs.size + 1) s1.heap.objs.size, ⟨⟨.none, he⟩, hit, Nat.succ_ne_self _⟩, fr, q⟩
def enumI : FI := fun ds st => match ds with
  | [a] => match itV a st with
    | some i => some ⟨enumD i.ds, i.src⟩
    | none => none
  | _ => none
theorem enumD_len (xs : List D) : (enumD xs).length = xs.length := by simp [enumD]
theorem enumD_get {xs : List D} {i : Nat} {d : D} (h : (enumD xs)[i]? = some d) : ∃ x, xs[i]? = some x ∧ d = .ztp [.int i, x] := by
  unfold enumD at h
  rw [List.getElem?_zipWith] at h
  have hi : i < xs.length := by
    by_cases hi : i < xs.length
    · exact hi
    · rw [List.getElem?_eq_none (l := List.range xs.length) (by simpa using hi)] at h
      cases h
  rw [List.getElem?_range hi, List.getElem?_eq_getElem hi] at h
  simp only [Option.some.injEq] at h
  exact ⟨xs[i], by simp [hi], h.symm⟩
theorem enum_core {K : PySem.W.Frag} {r : Ad} {H : Hp} {i : Itm} {a : Addr} {Sq : Hp → Addr → List V → Prop} (hi : ItAt K r H i Sq a) :
    ItOk K r H ⟨enumD i.ds, i.src⟩ ⟨fun i H => ∃ (xs : List V) (x : V), Sq H a xs ∧ xs[i]? = some x, fun i H v H' => ∃ T x, v = .ref T ∧ H T = none ∧ H' = upd H T (.tup [.int (i : Nat), x]) ∧ ∀ xs, Sq H a xs → xs[i]? = some x, fun i H => ∃ xs : List V, Sq H a xs ∧ xs.length ≤ i⟩ := by
  intro r1 H1 st1 S t hh
  obtain ⟨xs, sx, tx⟩ := hi r1 H1 st1 S t hh
  refine ⟨fun k hk => ⟨xs, sx, ?_⟩, fun k d hd => ?_⟩
  · rw [enumD_len, tx.length] at hk
    exact hk
  · obtain ⟨x, e1, rfl⟩ := enumD_get hd
    obtain ⟨v, g1, g2⟩ := tx.get e1
    refine ⟨⟨xs, v, sx, g1⟩, fun z H2 hy => ?_⟩
    obtain ⟨T, v', rfl, hT, rfl, k1⟩ := hy
    have e3 := k1 xs sx
    rw [g1] at e3
    cases e3
    obtain ⟨S2, x2⟩ := S.side (o := .tup [.int (k : Nat), v]) hT
    exact ⟨S2, x2, by simp only [RD]; exact ⟨T, [.int (k : Nat), v], rfl, ⟨.of upd_same, fun z => by cases z⟩, RDs.cons (by simp only [RD]) (RDs.cons (g2.mono x2) RDs.nil)⟩⟩
theorem enumI_ok {K : PySem.W.Frag} : ItS K (fun vs H R => ∃ a xs, vs = [.ref a] ∧ ((SqL K H a xs ∧ R (Ite K a) H) ∨ (SqT K H a xs ∧ R (IteT K a) H))) enumI := by
  intro r H st ds vs it Q S hd h P
  unfold enumI at h
  split at h
  · rename_i d
    obtain ⟨v, rfl, hv⟩ := hd.one
    split at h
    · rename_i i e1
      cases h
      obtain ⟨a, rfl, o1, h1⟩ := itAt_ok S hv e1
      rcases h1 with ⟨k1, h1⟩ | ⟨k1, h1⟩
      · obtain ⟨xs, sx, _⟩ := h1 r H st S Tr.refl_ o1
        exact ⟨a, xs, rfl, .inl ⟨sx, P _ (enum_core h1)⟩⟩
      · obtain ⟨xs, sx, _⟩ := h1 r H st S Tr.refl_ o1
        exact ⟨a, xs, rfl, .inr ⟨sx, P _ (enum_core h1)⟩⟩
    · cases h
  · cases h
theorem i_enum {X : Cx} {EW : EWt} {e : Expr} {p pos tpos : Pos} {elts : List Expr} {kk : Nat} {m : M (List D)} (hg : Gl X "enumerate") (hm : X.mg "enumerate" = none) (h : As X EW [e] m) (hs : starEach [e] X.env = [(false, eval e X.env)] := by rfl) :
    I_ X EW (.Tuple elts kk tpos) (.Call (.Name "enumerate" p) [e] [] pos) (iOf enumI m) :=
  PI.weak (pi_enumA hg hm h hs) fun _ _ _ h => iOf_weak enumI_ok h
end FW

set_option maxHeartbeats 4000000
namespace FW
open PySem PySem.Spec PyProof.Rows L2

/-! ### sorted: a tuple of pairs with different texts ahead -/
section
variable {X : Cx}
/-- what is behind the items that are gathered: a new list, sorted by what the heap tells -/
theorem sort_tailH {pins : List (Addr × Obj)} {σ : L2.St} {H : Hp} {s : Shared} {A : Around} {E : Value → Shared → Prop} {vs : List Value} {ltv : Value → Value → Bool} {ys : List V} {Q : VK} {R : PySem.Fin → Shared → Prop} (J : Inv X pins σ H s) (O : SrtO.Swo ltv) (hz : vs.length ≤ sizeLine)
    (hS : ∀ (h : Heap) (a : Addr), 2 ≤ vs.length → h.get? a = some (seqObj "list" vs.toArray 0) → (∀ b o, s.heap.get? b = some o → h.get? b = some o) → SrtO.SortableO X.prog X.w A.in1 { s with heap := h } a vs ltv) (ho : ∀ out : List Value, SrtO.Srtd ltv out → SrtO.Stb ltv out vs → Vals ys out) (hy : ys.length ≤ sizeLine) (q : ∀ p, H p = none → Q (.ref p) (upd H p (.lst ys)))
    (hR : ∀ (v : Value) (s' : Shared), EP X pins σ Q v s' → R (.done (.ret v)) s') :
    wpAny (model X.prog X.w) A (newList vs >>= fun l => holding [l] (call (.builtin "list.sort") [l]) >>= fun _ => ret l) R E s := by
  apply wpAny_bind
  refine wpAny_newList ?_ hz
  have stands : (s.heap.push (seqObj "list" vs.toArray 0)).get? s.heap.objs.size = some (seqObj "list" vs.toArray 0) := Heap.get?_push_size _ rfl
  refine wpAny_bind (wpAny_holding (wpAny_call_entry slot_list_sort ⟨_, stands, rfl⟩ entry_list_sort
    (SrtO.list_sort_ord (s := { s with heap := s.heap.push (seqObj "list" vs.toArray 0) }) O stands hz (fun h2 => hS _ _ h2 stands fun b o e => Heap.get?_push_of_some _ e) fun out o1 o2 => ⟨_, rfl, ?_⟩) (args_list_sort _)))
  have ov := ho out o1 o2
  rcases sortedHeap_at (vs := vs) (out := out.toArray) stands with ⟨ep2, at2⟩
  have laid := J.laid (a := s.heap.objs.size) (o := .lst ys) (h' := sortedHeap (s.heap.push (seqObj "list" vs.toArray 0)) s.heap.objs.size vs out.toArray) (t' := s.toks) (fun b u eb => by
    have lt := Heap.lt_size eb
    rw [sortedHeap_old (Nat.ne_of_lt lt) (by rw [size_push']; exact Nat.lt_succ_of_lt lt)]
    exact Heap.get?_push_of_some _ eb) (Nat.le_refl _) ⟨hy, out, ep2, ov, at2⟩
  exact wpAny_pure (hR _ _ ⟨.ref s.heap.objs.size, _, laid, rfl, q _ (J.hok.fresh (Nat.le_refl _))⟩)
def rSortTP (K : PySem.W.Frag) : List V → Hp → VK → Prop := fun vs H Q => ∃ (a : Addr) (xs : List V) (ls : List (List Nat)), vs = [V.ref a] ∧ SqT K H a xs ∧ Paired (fun x l => ∃ t z y, x = V.ref t ∧ SqT K H t [.str z, y] ∧ l = z.cps.toList) xs ls ∧ ls.Nodup ∧
  ∀ (ps : List (V × List Nat)) (p : Addr), ps.Perm (xs.zip ls) → (ps.Pairwise fun a b => a.2 < b.2) → H p = none → Q (.ref p) (upd H p (.lst (ps.map (·.1))))
theorem cr_sortTP : CallR X (.builtin "sorted") (rSortTP X.K) := by
  intro pins s σ H vs us Q I rel hh
  obtain ⟨a, xs, ls, rfl, hs, hp, nd, q⟩ := hh
  obtain ⟨its, rv, pt, hz⟩ := I.tuple hs
  have pt2 : s.heap.IsTuple a its.toArray := pt
  obtain ⟨o0, ho0, hc0, n0, hd0⟩ := pt2
  rw [Vals.ref1 rel]
  have each : ∀ {xs : List V} {ls : List (List Nat)} {its : List Value}, Paired (fun x l => ∃ t z y, x = V.ref t ∧ SqT X.K H t [.str z, y] ∧ l = z.cps.toList) xs ls → Vals xs its → (∀ v ∈ its, LbP s.heap v (lbOf s.heap v)) ∧ its.map (lbOf s.heap) = ls ∧ its.map rfV = xs := by
    intro xs ls its hp
    induction hp generalizing its with
    | nil => intro rv; cases rv; exact ⟨by simp, rfl, rfl⟩
    | @cons x l xs ls h t ih =>
      intro rv
      cases rv with
      | cons r rv =>
        obtain ⟨t1, z, y, rfl, hT, rfl⟩ := h
        cases r
        obtain ⟨i1, i2, i3⟩ := ih rv
        obtain ⟨its2, r2, ⟨o, ho, hc, n, hd⟩, _⟩ := I.tuple hT
        obtain ⟨u1, u2, rfl, ru, _⟩ := vals2 r2
        obtain ⟨tk, rfl⟩ := ru
        have lp : LbP s.heap (.ref t1) z.cps.toList := ⟨t1, o, z, tk, u2, n, rfl, ho, hc, hd, rfl⟩
        have e := lp.of
        refine ⟨fun v m => ?_, by rw [List.map_cons, e, i2], by rw [List.map_cons, i3]; rfl⟩
        rcases List.mem_cons.mp m with m | m
        · rw [m, e]; exact lp
        · exact i1 v m
  obtain ⟨i1, i2, i3⟩ := each hp rv
  have nl : ∀ (h₁ : Heap) (a' : Addr), h₁.get? a' = some (seqObj "list" its.toArray 0) → ∀ o, h₁.get? a' = some o → o.cls ≠ .type "tuple" := by
    intro h₁ a' e o e2
    rw [e] at e2
    cases e2
    intro z
    injection (show Value.type "list" = Value.type "tuple" from z) with z
    exact absurd z (by decide)
  have lbk : ∀ (h₁ : Heap), (∀ b o, s.heap.get? b = some o → h₁.get? b = some o) → ∀ v ∈ its, lbOf h₁ v = lbOf s.heap v := fun h₁ k v m => ((i1 v m).keep fun b o e _ => k b o e).of
  have hz2 : its.length ≤ sizeLine := by rw [← rv.length]; exact hz
  apply Calls.call_function_entry kind_sorted plain_sorted entry_sorted (args_sorted1 _)
  unfold Builtin.«sorted»
  apply wpAny_bind (m := checkCount "sorted" 1 1 _)
  apply wpAny_pure
  apply wpAny_bind
  refine wpAny_collect_seq (T := "tuple") (items := its.toArray) a (.inr rfl) ho0 hc0 hd0 (fun h1 keep => ?_) (by simpa using hz2)
  have J : Inv X pins σ H { s with heap := h1 } := I.kept (t' := s.toks) keep
  rw [show its.toArray.toList = its from by simp]
  refine sort_tailH (s := { s with heap := h1 }) (ys := (srtL (fun z : V × List Nat => z.2) (xs.zip ls)).map (·.1)) J (swo_by (lbOf s.heap)) hz2 (fun h₂ a' h2 e k => ?_) (fun out o1 o2 => ?_) ?_ (fun p hp => q _ p (srtL_perm _) (srtL_lt ?_) hp) fun v s' e => ⟨_, rfl, e⟩
  · have k' : ∀ b o, s.heap.get? b = some o → h₂.get? b = some o := fun b o e => k b o (keep b o e)
    have base := lb_sortable (prog := X.prog) (w := X.w) (A := X.A.in1.in1) (s := { s with heap := h₂ }) (a := a') (vs := its) (zs := ls) (by omega) (fun v m => by
      show LbP h₂ v (lbOf h₂ v)
      rw [lbk h₂ k' v m]
      exact (i1 v m).keep fun b o e _ => k' b o e) (by
      show (its.map (lbOf h₂)).Nodup
      rw [List.map_congr_left (lbk h₂ k'), i2]
      exact nd) (nl h₂ a' e)
    intro h2' keep2
    obtain ⟨κ, c1, c2⟩ := base h2' keep2
    refine ⟨κ, c1, fun p q hp hq => ?_⟩
    have := c2 p q hp hq
    have e1 : SrtO.lt2 (fun v u => decide (lbOf h₂ v < lbOf h₂ u)) p q = SrtO.lt2 (fun v u => decide (lbOf s.heap v < lbOf s.heap u)) p q := by
      show decide (lbOf h₂ p.1 < lbOf h₂ q.1) = decide (lbOf s.heap p.1 < lbOf s.heap q.1)
      rw [lbk h₂ k' p.1 hp, lbk h₂ k' q.1 hq]
    rw [← e1]
    exact this
  · have pm := o2.perm
    have lt : out.Pairwise fun v u => lbOf s.heap v < lbOf s.heap u := by
      refine lt_of_le_ne (o1.imp fun {x y} h => of_decide_eq_false h) ?_
      exact (pm.map _).nodup_iff.mpr (by rw [i2]; exact nd)
    have zp : xs.zip ls = its.map fun v => (rfV v, lbOf s.heap v) := by
      rw [← i2, ← i3, List.zip_map']
    have nd2 : ((xs.zip ls).map fun z => z.2).Nodup := by
      rw [zp, List.map_map]
      show (its.map (lbOf s.heap)).Nodup
      rw [i2]; exact nd
    have es : (srtL (fun z : V × List Nat => z.2) (xs.zip ls)) = out.map fun v => (rfV v, lbOf s.heap v) := by
      refine lt_only (f := fun z : V × List Nat => z.2) ?_ (srtL_lt nd2) (List.pairwise_map.mpr lt)
      exact (srtL_perm _).trans (by rw [zp]; exact (pm.map _).symm)
    rw [es, List.map_map]
    show Vals (out.map rfV) out
    have all : ∀ v ∈ out, ∃ t, v = Value.ref t := fun v m => by
      obtain ⟨t, _, _, _, _, _, e, _⟩ := i1 v (pm.mem_iff.mp m)
      exact ⟨t, e⟩
    clear es lt o1 o2 pm
    induction out with
    | nil => exact .nil
    | cons v out ih =>
      obtain ⟨t, rfl⟩ := all v List.mem_cons_self
      exact .cons rfl (ih fun u m => all u (List.mem_cons_of_mem _ m))
  · have e1 : (xs.zip ls).length ≤ xs.length := by rw [List.length_zip]; omega
    rw [List.length_map, (srtL_perm _).length_eq]
    exact Nat.le_trans e1 hz
  · have zp : xs.zip ls = its.map fun v => (rfV v, lbOf s.heap v) := by
      rw [← i2, ← i3, List.zip_map']
    rw [zp, List.map_map]
    show (its.map (lbOf s.heap)).Nodup
    rw [i2]; exact nd
end
open Classical in
/-- sorted, of a tuple of such pairs, too -/
noncomputable def oSortT : Fo0 := fun as st => match oSortB as st with
  | some ob => some ob
  | none => match as with
    | [.tup ds] => if ds.all isLb = true ∧ (ds.map lbD).Nodup then some (.lst (srtL lbD ds)) else none
    | _ => none
def rSortT (K : PySem.W.Frag) : List V → Hp → VK → Prop := fun xs H Q => rSortB K xs H Q ∨ rSortTP K xs H Q
theorem cr_sortT {X : Cx} (calm : X.calm = true) : CallR X (.builtin "sorted") (rSortT X.K) := CallR.or (cr_sortB calm) cr_sortTP
theorem oSortT_ok {K : PySem.W.Frag} : FoS K (rSortT K) oSortT := by
  intro r H st ds vs ob Q S hs h P
  unfold oSortT at h
  split at h
  · rename_i ob' e
    cases h
    exact .inl (oSortB_ok r H st ds vs ob Q S hs e P)
  · split at h
    · rename_i es _
      obtain ⟨v, rfl, hv⟩ := hs.one
      split at h
      · rename_i hh
        obtain ⟨h1, h2⟩ := hh
        cases h
        obtain ⟨a, ws, rfl, s, t⟩ := tup_ok hv
        refine .inr ⟨a, ws, es.map lbD, rfl, s, lbs_ok h1 t, h2, fun ps p pm lt hp => ?_⟩
        have L := t.length
        have f1 : (es.zip ws).map (·.1) = es := List.map_fst_zip (by omega)
        have nd2 : ((es.zip ws).map fun z => lbD z.1).Nodup := by
          rw [(zip_lb es ws L).1]; exact h2
        have s1 : (srtL (fun z : D × V => lbD z.1) (es.zip ws)).map (·.1) = srtL lbD es := by
          refine lt_only (f := lbD) ?_ ?_ (srtL_lt h2)
          · have p1 := (srtL_perm (f := fun z : D × V => lbD z.1) (es.zip ws)).map (·.1)
            rw [f1] at p1
            exact p1.trans (srtL_perm es).symm
          · exact List.pairwise_map.mpr (srtL_lt nd2)
        have zp := (zip_lb es ws L).2
        have s2 : ps = (srtL (fun z : D × V => lbD z.1) (es.zip ws)).map fun z => (z.2, lbD z.1) := by
          refine lt_only (f := fun z : V × List Nat => z.2) ?_ lt (List.pairwise_map.mpr (srtL_lt nd2))
          rw [zp] at pm
          exact pm.trans ((srtL_perm _).map _).symm
        refine P p _ hp ⟨_, rfl, ?_⟩
        rw [← s1, s2, List.map_map]
        exact RDs.zipP fun z m => t.mems z ((srtL_perm _).mem_iff.mp m)
      · cases h
    · cases h
end FW

set_option maxHeartbeats 4000000
namespace FW
open PySem PySem.Spec PyProof.Rows L2

/-! ### sorted: a list of tuples of numbers that are not negative, an empty one ahead, all different -/
theorem lex_nat : ∀ (xs ys : List Nat), HT.lexLt (xs.map Int.ofNat) (ys.map Int.ofNat) = decide (xs < ys)
  | [], [] => by rw [List.map_nil, HT.lexLt_nil_nil]; exact (decide_eq_false (List.lt_irrefl _)).symm
  | [], y :: ys => by rw [List.map_nil, List.map_cons, HT.lexLt_nil_cons]; exact (decide_eq_true (List.nil_lt_cons _ _)).symm
  | x :: xs, [] => by rw [List.map_nil, List.map_cons, HT.lexLt_cons_nil]; exact (decide_eq_false (List.not_lt_nil _)).symm
  | x :: xs, y :: ys => by
    rw [List.map_cons, List.map_cons, HT.lexLt_cons, lex_nat xs ys]
    by_cases e : x = y
    · subst e
      rw [if_pos rfl]
      exact decide_eq_decide.mpr (by rw [List.cons_lt_cons_iff]; simp)
    · rw [if_neg (by intro z; exact e (Int.ofNat.inj z))]
      refine decide_eq_decide.mpr ?_
      rw [List.cons_lt_cons_iff]
      constructor
      · intro h; exact .inl (Int.ofNat_lt.mp h)
      · rintro (h | ⟨h, _⟩)
        · exact Int.ofNat_lt.mpr h
        · exact absurd h e
def natV : Value → Nat
  | .int n _ => n.toNat
  | _ => 0
def plOf (h : Heap) (v : Value) : List Nat := match v with
  | .ref a => match h.get? a with
    | some o => match o.data with
      | .seq its _ => its.toList.map natV
      | _ => []
    | none => []
  | _ => []
def PlP (h : Heap) (v : Value) (z : List Nat) : Prop := ∃ a o its n, v = .ref a ∧ h.get? a = some o ∧ o.cls = .type "tuple" ∧ o.data = .seq its n ∧ IntsAre its.toList (z.map Int.ofNat)
theorem ints_nat : ∀ {vs : List Value} {z : List Nat}, IntsAre vs (z.map Int.ofNat) → vs.map natV = z
  | [], [], _ => rfl
  | _ :: _, [], h => by cases h
  | [], _ :: _, h => by cases h
  | v :: vs, n :: z, h => by
    rw [List.map_cons] at h
    cases h with
    | cons _ t h => rw [List.map_cons, ints_nat h]; rfl
theorem PlP.of {h : Heap} {v : Value} {z : List Nat} (p : PlP h v z) : plOf h v = z := by
  obtain ⟨a, o, its, n, rfl, e, _, d, hi⟩ := p
  simp only [plOf, e, d]
  exact ints_nat hi
theorem PlP.keep {h h' : Heap} {v : Value} {z : List Nat} (p : PlP h v z) (k : ∀ b o, h.get? b = some o → o.cls = .type "tuple" → h'.get? b = some o) : PlP h' v z := by
  obtain ⟨a, o, its, n, rfl, e, c, d, hi⟩ := p
  exact ⟨a, o, its, n, rfl, k _ _ e c, c, d, hi⟩
section
variable {M : Model} {A : Around} {E : Value → Shared → Prop} {s : Shared}
theorem pl_firsts : ∀ (vs : List Value) {Q : List (Option Value) → Shared → Prop}, (∀ v ∈ vs, ∃ z, PlP s.heap v z) → (∀ fs : List (Option Value), fs.length = vs.length → Q fs s) → wpAny M A (vs.mapM firstOfTuple') Q E s
  | [], Q, _, h => by rw [List.mapM_nil]; exact wpAny_pure (h [] rfl)
  | v :: vs, Q, t, h => by
    obtain ⟨z, a, o, its, n, rfl, ho, hc, hd, hi⟩ := t v List.mem_cons_self
    rw [List.mapM_cons]
    refine wpAny_bind ?_
    rw [PySem.W.kas_first_eq]
    refine wpAny_bind (PySem.W.Looks.here (show PySem.W.Looks M s.heap (typeOf (.ref a)) o.cls from (PySem.W.Looks.ld ho).andThen .now) ?_)
    rw [hc, if_neg (by first | decide | simp)]
    refine wpAny_bind (listItems_at ho hd (wpAny_pure ?_))
    exact wpAny_bind (pl_firsts vs (Q := fun bs s' => wpAny M A (pure (its[0]? :: bs)) Q E s') (fun v m => t v (List.mem_cons_of_mem _ m)) fun fs l => wpAny_pure (h _ (by simp [l])))
theorem pl_kind {v : Value} {vs : List Value} {Q : SortKind → Shared → Prop} (h0 : PlP s.heap v []) (t : ∀ u ∈ vs, ∃ z, PlP s.heap u z) (h : Q oneType' s) : wpAny M A (keyKind' (v :: vs).toArray) Q E s := by
  obtain ⟨a, o, its, n, rfl, ho, hc, hd, hi⟩ := h0
  have e0 : its[0]? = none := by
    have : its.toList = [] := by
      rw [List.map_nil] at hi
      generalize its.toList = l at hi
      cases hi; rfl
    rw [← Array.getElem?_toList, this]; rfl
  rw [kat_kind_eq, List.mapM_toArray, map_eq_pure_bind, List.mapM_cons]
  refine wpAny_bind (wpAny_bind (wpAny_bind ?_))
  rw [PySem.W.kas_first_eq]
  refine wpAny_bind (PySem.W.Looks.here (show PySem.W.Looks M s.heap (typeOf (.ref a)) o.cls from (PySem.W.Looks.ld ho).andThen .now) ?_)
  rw [hc, if_neg (by first | decide | simp)]
  refine wpAny_bind (listItems_at ho hd (wpAny_pure ?_))
  rw [e0]
  refine wpAny_bind (pl_firsts vs t fun fs l => wpAny_pure (wpAny_pure ?_))
  rw [if_neg (by simp), if_neg (by simp)]
  rw [oneTypeOnly'_eq, List.mapM_toArray, map_eq_pure_bind]
  refine wpAny_bind (wpAny_bind (wpAny_bind (PySem.W.kas_mapM (r := Value.type "tuple") _ (fun u hu Q' hq => ?_) (wpAny_pure ?_))))
  · rcases List.mem_cons.mp hu with e | m
    · rw [e]
      exact PySem.W.Looks.here (show PySem.W.Looks M s.heap (typeOf (.ref a)) (.type "tuple") from hc ▸ (PySem.W.Looks.ld ho).andThen .now) hq
    · obtain ⟨z, b, o', its', n', rfl, ho', hc', _⟩ := t u m
      exact PySem.W.Looks.here (show PySem.W.Looks M s.heap (typeOf (.ref b)) (.type "tuple") from hc' ▸ (PySem.W.Looks.ld ho').andThen .now) hq
  · have hall : ((List.map (fun _ => Value.type "tuple") (Value.ref a :: vs)).toArray.all fun x => x == Value.type "tuple") = true := by
      simp only [List.all_toArray, List.all_map, List.all_eq_true]
      intro _ _
      rfl
    have h0 : (List.map (fun _ => Value.type "tuple") (Value.ref a :: vs)).toArray[0]? = some (Value.type "tuple") := by simp
    rw [h0]
    simp only [hall, if_true]
    exact wpAny_pure (wpAny_pure h)
end
section
variable {prog : Program} {w : World} {A : Around} {E : Value → Shared → Prop} {s : Shared}
theorem pl_lt (hu : A.units < cLine) {v u : Value} {x y : List Nat} {Q : Bool → Shared → Prop} (hv : PlP s.heap v x) (hy : PlP s.heap u y) (h : Q (decide (x < y)) s) : wpAny (model prog w) A (keyLt' oneType' v u) Q E s := by
  obtain ⟨a, o, its, n, rfl, ho, hc, hd, hi⟩ := hv
  obtain ⟨b, o2, its2, n2, rfl, ho2, hc2, hd2, hi2⟩ := hy
  obtain ⟨cls, dd, data, sl⟩ := o
  obtain ⟨cls2, dd2, data2, sl2⟩ := o2
  simp only at hc hd hc2 hd2
  subst hc hd hc2 hd2
  rw [keyLt'_oneType, oneLt'_eq]
  simp only [if_true]
  refine wpAny_bind (wpAny_cRoomFor hu ?_)
  have tI : s.TypeIs (.ref a) "tuple" := ⟨_, ho, rfl⟩
  refine wpAny_bind (wpAny_callSpecialIfBound?_slot (T := "tuple") tI PySem.F.slot_tuple_lt (call_meets PySem.F.slot_tuple_lt tI PySem.F.entry_tuple_lt (PySem.F.args_tuple_lt_2 _ _) (HT.tuple_lt_ints a b its its2 n n2 dd dd2 sl sl2 _ _ hi hi2) ⟨ho, ho2, ?_⟩))
  rw [lex_nat]
  exact wpAny_truthy_bool h
end
section
variable {X : Cx}
def rSortLN (K : PySem.W.Frag) : List V → Hp → VK → Prop := fun vs H Q => ∃ (a : Addr) (xs : List V) (ls : List (List Nat)), vs = [V.ref a] ∧ SqL K H a xs ∧ Paired (fun x (l : List Nat) => ∃ t, x = V.ref t ∧ SqT K H t ((l.map Int.ofNat).map V.int)) xs ls ∧ ls.Nodup ∧ ls.head? = some [] ∧
  ∀ (ps : List (V × List Nat)) (p : Addr), ps.Perm (xs.zip ls) → (ps.Pairwise fun a b => a.2 < b.2) → H p = none → Q (.ref p) (upd H p (.lst (ps.map (·.1))))
theorem cr_sortLN (hu : X.A.units + 66 < cLine) : CallR X (.builtin "sorted") (rSortLN X.K) := by
  intro pins s σ H vs us Q I rel hh
  obtain ⟨a, xs, ls, rfl, hs, hp, nd, h0, q⟩ := hh
  obtain ⟨its, rv, hl, hz⟩ := I.list hs
  rw [Vals.ref1 rel]
  have each : ∀ {xs : List V} {ls : List (List Nat)} {its : List Value}, Paired (fun x (l : List Nat) => ∃ t, x = V.ref t ∧ SqT X.K H t ((l.map Int.ofNat).map V.int)) xs ls → Vals xs its → (∀ v ∈ its, PlP s.heap v (plOf s.heap v)) ∧ its.map (plOf s.heap) = ls ∧ its.map rfV = xs := by
    intro xs ls its hp
    induction hp generalizing its with
    | nil => intro rv; cases rv; exact ⟨by simp, rfl, rfl⟩
    | @cons x l xs ls h t ih =>
      intro rv
      cases rv with
      | cons r rv =>
        obtain ⟨t1, rfl, hT⟩ := h
        cases r
        obtain ⟨i1, i2, i3⟩ := ih rv
        obtain ⟨its2, r2, ⟨o, ho, hc, n, hd⟩, _⟩ := I.tuple hT
        have i4 : IntsAre its2.toArray.toList (l.map Int.ofNat) := intsAre_of r2
        have lp : PlP s.heap (.ref t1) l := ⟨t1, o, its2.toArray, n, rfl, ho, hc, hd, i4⟩
        have e := lp.of
        refine ⟨fun v m => ?_, by rw [List.map_cons, e, i2], by rw [List.map_cons, i3]; rfl⟩
        rcases List.mem_cons.mp m with m | m
        · rw [m, e]; exact lp
        · exact i1 v m
  obtain ⟨i1, i2, i3⟩ := each hp rv
  have nl : ∀ (h₁ : Heap) (a' : Addr), h₁.get? a' = some (seqObj "list" its.toArray 0) → ∀ o, h₁.get? a' = some o → o.cls ≠ .type "tuple" := by
    intro h₁ a' e o e2
    rw [e] at e2
    cases e2
    intro z
    injection (show Value.type "list" = Value.type "tuple" from z) with z
    exact absurd z (by decide)
  refine SrtO.sorted_ord (swo_by (plOf s.heap)) hl.isList (by rw [← rv.length]; exact hz) (fun h2 h₁ a' e k => ?_) fun out h1 h2 => ?_
  · intro h' keep
    have hp' : ∀ v ∈ its, PlP h' v (plOf s.heap v) := fun v m => (i1 v m).keep fun b o e1 c => by
      have e2 := (k b o e1)
      exact keep b o e2.1 e2.2
    refine ⟨oneType', fun Q E hq => ?_, fun p q hp hq => ?_⟩
    · cases its with
      | nil => simp at h2
      | cons v us =>
        have e0 : plOf s.heap v = [] := by
          rw [← i2] at h0
          simpa using h0
        exact pl_kind (e0 ▸ hp' v List.mem_cons_self) (fun u m => ⟨_, hp' u (List.mem_cons_of_mem _ m)⟩) hq
    · exact pl_lt (show X.A.units + 1 + 1 < cLine by omega) (hp' _ hp) (hp' _ hq) ⟨rfl, rfl⟩
  · obtain ⟨ep, he'⟩ := PyProof.Rows.sortedAll_at s.heap its out.toArray
    have pm := h2.perm
    have lt : out.Pairwise fun v u => plOf s.heap v < plOf s.heap u := by
      refine lt_of_le_ne (h1.imp fun {x y} h => of_decide_eq_false h) ?_
      exact (pm.map _).nodup_iff.mpr (by rw [i2]; exact nd)
    have hout : Vals (out.map rfV) out := by
      have all : ∀ v ∈ out, ∃ t, v = Value.ref t := fun v m => by
        obtain ⟨t, _, _, _, e, _⟩ := i1 v (pm.mem_iff.mp m)
        exact ⟨t, e⟩
      clear he' lt h1 h2 pm
      induction out with
      | nil => exact .nil
      | cons v out ih =>
        obtain ⟨t, rfl⟩ := all v List.mem_cons_self
        exact .cons rfl (ih fun u m => all u (List.mem_cons_of_mem _ m))
    have small : (out.map rfV).length ≤ sizeLine := by rw [List.length_map, pm.length_eq, ← rv.length]; exact hz
    have zp : xs.zip ls = its.map fun v => (rfV v, plOf s.heap v) := by
      rw [← i2, ← i3, List.zip_map']
    have g := q (out.map fun v => (rfV v, plOf s.heap v)) (s.heap.objs.size + 1) (by rw [zp]; exact pm.map _) (List.pairwise_map.mpr lt) (I.hok.fresh (Nat.le_succ _))
    have e3 : (out.map fun v => (rfV v, plOf s.heap v)).map (·.1) = out.map rfV := by rw [List.map_map]; rfl
    rw [e3] at g
    exact ⟨.ref _, upd H (s.heap.objs.size + 1) (.lst (out.map rfV)), I.laid (t' := s.toks) (fun _ _ => PyProof.Rows.sortedAll_old) (Nat.le_succ _) ⟨small, out, ep, hout, he'⟩, rfl, g⟩
end
/-- a tuple of numbers that are not negative -/
def natD : D → Option (List Nat)
  | .tup ds => ds.mapM fun d => match d with
    | .int (.ofNat n) => some n
    | _ => none
  | _ => none
def plD (d : D) : List Nat := (natD d).getD []
open Classical in
noncomputable def oSortN : Fo0 := fun as st => match oSortB as st with
  | some ob => some ob
  | none => match as with
    | [d] => match rdlOf d st with
      | some ds => if ds.all (fun d => (natD d).isSome) = true ∧ (ds.map plD).Nodup ∧ (ds.map plD).head? = some [] then some (.lst (srtL plD ds)) else none
      | none => none
    | _ => none
def rSortN (K : PySem.W.Frag) : List V → Hp → VK → Prop := fun xs H Q => rSortB K xs H Q ∨ rSortLN K xs H Q
theorem cr_sortN {X : Cx} (calm : X.calm = true) (hu : X.A.units + 66 < cLine) : CallR X (.builtin "sorted") (rSortN X.K) := CallR.or (cr_sortB calm) (cr_sortLN hu)
theorem natL_eq : ∀ {ds : List D} {z : List Nat}, (ds.mapM fun d => match d with
    | .int (.ofNat n) => some n
    | _ => none) = some z → ds = (z.map Int.ofNat).map D.int
  | [], z, h => by simp at h; subst h; rfl
  | d :: ds, z, h => by
    rw [List.mapM_cons] at h
    cases d with
    | int i =>
      cases i with
      | ofNat n =>
        cases q : (ds.mapM fun d => match d with
          | .int (.ofNat n) => some n
          | _ => none) with
        | none => rw [q] at h; simp at h
        | some y =>
          rw [q] at h
          simp at h
          subst h
          rw [natL_eq q]
          rfl
      | negSucc n => simp at h
    | _ => simp at h
theorem natD_eq {d : D} {z : List Nat} (h : natD d = some z) : d = .tup ((z.map Int.ofNat).map D.int) := by
  cases d with
  | tup ds => rw [natL_eq (show _ = some z from h)]
  | _ => cases h
theorem natL_map : ∀ (z : List Nat), (((z.map Int.ofNat).map D.int).mapM fun d => match d with
    | .int (.ofNat n) => some n
    | _ => none) = some z
  | [] => rfl
  | n :: z => by
    rw [List.map_cons, List.map_cons, List.mapM_cons, natL_map z]
    rfl
theorem natD_tup (z : List Nat) : natD (.tup ((z.map Int.ofNat).map D.int)) = some z := natL_map z
theorem plD_tup (z : List Nat) : plD (.tup ((z.map Int.ofNat).map D.int)) = z := by rw [plD, natD_tup]; rfl
theorem pls_ok {K : PySem.W.Frag} {r : Ad} {H : Hp} : ∀ {ds : List D} {vs : List V}, ds.all (fun d => (natD d).isSome) = true → RDs K r H ds vs → Paired (fun x (l : List Nat) => ∃ t, x = V.ref t ∧ SqT K H t ((l.map Int.ofNat).map V.int)) vs (ds.map plD)
  | [], vs, _, h => by rw [h.nil_]; exact .nil
  | d :: ds, vs, a, h => by
    simp only [List.all_cons, Bool.and_eq_true] at a
    simp only [RDs] at h
    obtain ⟨v, vs', rfl, h1, h2⟩ := h
    refine .cons ?_ (pls_ok a.2 h2)
    obtain ⟨z, hz⟩ := Option.isSome_iff_exists.mp a.1
    have e := natD_eq hz
    subst e
    rw [plD_tup]
    obtain ⟨t, ws, rfl, s, q⟩ := tup_ok h1
    rw [q.ints] at s
    exact ⟨t, rfl, s⟩
theorem zip_pl : ∀ (es : List D) (ws : List V), es.length = ws.length → ((es.zip ws).map fun z => plD z.1) = es.map plD ∧ ws.zip (es.map plD) = (es.zip ws).map fun z => (z.2, plD z.1)
  | [], [], _ => ⟨rfl, rfl⟩
  | [], _ :: _, h => by cases h
  | _ :: _, [], h => by cases h
  | e :: es, w :: ws, h => by
    obtain ⟨h1, h2⟩ := zip_pl es ws (by simpa using h)
    exact ⟨by simp [h1], by simp [h2]⟩
theorem oSortN_ok {K : PySem.W.Frag} : FoS K (rSortN K) oSortN := by
  intro r H st ds vs ob Q S hs h P
  unfold oSortN at h
  split at h
  · rename_i ob' e
    cases h
    exact .inl (oSortB_ok r H st ds vs ob Q S hs e P)
  · split at h
    · rename_i d
      obtain ⟨v, rfl, hv⟩ := hs.one
      split at h
      · rename_i es e2
        split at h
        · rename_i hh
          obtain ⟨h1, h2, h3⟩ := hh
          cases h
          obtain ⟨a, ws, rfl, s, t⟩ := rdlOf_ok S hv e2
          refine .inr ⟨a, ws, es.map plD, rfl, s, pls_ok h1 t, h2, h3, fun ps p pm lt hp => ?_⟩
          have L := t.length
          have f1 : (es.zip ws).map (·.1) = es := List.map_fst_zip (by omega)
          have nd2 : ((es.zip ws).map fun z => plD z.1).Nodup := by
            rw [(zip_pl es ws L).1]; exact h2
          have s1 : (srtL (fun z : D × V => plD z.1) (es.zip ws)).map (·.1) = srtL plD es := by
            refine lt_only (f := plD) ?_ ?_ (srtL_lt h2)
            · have p1 := (srtL_perm (f := fun z : D × V => plD z.1) (es.zip ws)).map (·.1)
              rw [f1] at p1
              exact p1.trans (srtL_perm es).symm
            · exact List.pairwise_map.mpr (srtL_lt nd2)
          have zp := (zip_pl es ws L).2
          have s2 : ps = (srtL (fun z : D × V => plD z.1) (es.zip ws)).map fun z => (z.2, plD z.1) := by
            refine lt_only (f := fun z : V × List Nat => z.2) ?_ lt (List.pairwise_map.mpr (srtL_lt nd2))
            rw [zp] at pm
            exact pm.trans ((srtL_perm _).map _).symm
          refine P p _ hp ⟨_, rfl, ?_⟩
          rw [← s1, s2, List.map_map]
          exact RDs.zipP fun z m => t.mems z ((srtL_perm _).mem_iff.mp m)
        · cases h
      · cases h
    · cases h
end FW

set_option maxHeartbeats 4000000
namespace FW
open PySem PySem.Spec L2 PyProof.Rows

/-! ### data with dicts: == of what is the same, repr -/
mutual
def noL : PyData → Bool
  | .none => true
  | .bool _ => true
  | .int _ => true
  | .str _ => true
  | .list _ => false
  | .tuple xs => noLs xs
  | .dict _ => false
def noLs : List PyData → Bool
  | [] => true
  | x :: xs => noL x && noLs xs
end
mutual
theorem noL_reads {h : Heap} : ∀ {p : PyData} {v : Value} {as : List Addr}, Reads h v p as → noL p = true → as = []
  | _, _, _, .none, _ => rfl
  | _, _, _, .bool _, _ => rfl
  | _, _, _, .int _ _, _ => rfl
  | _, _, _, .str _ _, _ => rfl
  | _, _, _, .list _ _ _ _, h => by simp [noL] at h
  | _, _, _, .tuple _ _ _ r, h => by
    simp only [noL] at h
    exact noLs_reads r h
  | _, _, _, .dict _ _ _ _ _, h => by simp [noL] at h
theorem noLs_reads {h : Heap} : ∀ {p : List PyData} {v : List Value} {as : List Addr}, ReadsAll h v p as → noLs p = true → as = []
  | _, _, _, .nil, _ => rfl
  | _, _, _, .cons a r, h => by
    simp only [noLs, Bool.and_eq_true] at h
    rw [noL_reads a h.1, noLs_reads r h.2]
    rfl
end
/-- tuples of leaves, not deep -/
def fine0 (p : PyData) : Bool := noL p && (p.canLay0 && decide (p.depth ≤ 60))
theorem fine0_of {p : PyData} (h : fine0 p = true) : noL p = true ∧ p.canLay0 = true ∧ p.depth ≤ 60 := by
  simp only [fine0, Bool.and_eq_true, decide_eq_true_eq] at h
  exact h
def kY : Key → PyData
  | .inl i => .int i
  | .inr x => .str x
section
variable (K : PySem.W.Frag) (H : Hp)
def D0 (v : V) (p : PyData) : Prop := Dp K H v p ∧ fine0 p = true
def kvR (kv : Key × V) (q : PyData × PyData) : Prop := q.1 = kY kv.1 ∧ D0 K H kv.2 q.2
def D1 (v : V) (p : PyData) : Prop := D0 K H v p ∨ ∃ a kvs qs, v = .ref a ∧ Rd H a (.dK kvs) ∧ Paired (kvR K H) kvs qs ∧ p = .dict qs
def D2 (v : V) (p : PyData) : Prop := D1 K H v p ∨ ∃ a xs ps, v = .ref a ∧ SqL K H a xs ∧ Paired (D1 K H) xs ps ∧ p = .list ps
end
section
variable {X : Cx} {pins : List (Addr × Obj)} {σ : L2.St} {H : Hp} {s : Shared}
theorem d0_eq (I : Inv X pins σ H s) {A : Around} (hu : A.units + 60 < cLine) (x y : V) (v u : Value) (h : ∃ p, D0 X.K H x p ∧ D0 X.K H y p) (rx : RelV x v) (ry : RelV y u) : SeqAt.EqP X.prog X.w A s v u true := by
  obtain ⟨p, ⟨h1, f⟩, h2, _⟩ := h
  obtain ⟨_, c, d⟩ := fine0_of f
  obtain ⟨as, r1⟩ := Dp.reads I p x v h1 rx
  obtain ⟨bs, r2⟩ := Dp.reads I p y u h2 ry
  have e := SeqAt.eqAt_reads p p A s v u as bs r1 r2 c c (by omega)
  rw [SeqAt.eqv_refl _ c] at e
  exact e.eqP
theorem paired_mem {α β : Type} {F : α → β → Prop} : ∀ {l : List α} {m : List β}, Paired F l m → ∀ a ∈ l, ∃ b ∈ m, F a b
  | _, _, .nil, a, h => by cases h
  | _, _, .cons r t, a, h => by
    rcases List.mem_cons.mp h with e | h
    · subst e; exact ⟨_, List.mem_cons_self, r⟩
    · obtain ⟨b, hb, q⟩ := paired_mem t a h
      exact ⟨b, List.mem_cons_of_mem _ hb, q⟩
theorem kY_inj {a b : Key} (h : kY a = kY b) : a = b := by
  cases a <;> cases b <;> simp_all [kY]
theorem d1_two {K : PySem.W.Frag} : ∀ {ks ls : List (Key × V)} {qs : List (PyData × PyData)}, Paired (kvR K H) ks qs → Paired (kvR K H) ls qs → Paired (fun p q => p.1 = q.1 ∧ ∃ z, D0 K H p.2 z ∧ D0 K H q.2 z) ks ls
  | _, _, _, .nil, .nil => .nil
  | _, _, _, .cons a t, .cons b u => .cons ⟨kY_inj (a.1.symm.trans b.1), _, a.2, b.2⟩ (d1_two t u)
theorem two_val {K : PySem.W.Frag} : ∀ {ks ls : List (Key × V)}, Paired (fun p q => p.1 = q.1 ∧ ∃ z, D0 K H p.2 z ∧ D0 K H q.2 z) ks ls → ∀ p ∈ ks, (ks.map (·.1)).Nodup → ∃ u, valV ls p.1 = some u ∧ ∃ z, D0 K H p.2 z ∧ D0 K H u z
  | _, _, .nil, p, h, _ => by cases h
  | _, _, .cons (a := a) (b := b) r t, p, h, nd => by
    have nd' := List.nodup_cons.mp (by simpa only [List.map_cons] using nd)
    rcases List.mem_cons.mp h with e | h
    · subst e
      refine ⟨b.2, ?_, r.2⟩
      unfold valV
      rw [List.find?_cons, r.1]
      simp
    · obtain ⟨u, e, z⟩ := two_val t p h nd'.2
      refine ⟨u, ?_, z⟩
      have ne : ¬ b.1 = p.1 := fun q => nd'.1 (by rw [r.1, q]; exact List.mem_map_of_mem h)
      unfold valV at e ⊢
      rw [List.find?_cons, decide_eq_false ne]
      exact e
theorem paired_length {α β : Type} {F : α → β → Prop} {l : List α} {m : List β} (h : Paired F l m) : l.length = m.length := Paired.length h
theorem d1_rc (I : Inv X pins σ H s) {A : Around} (hu : A.units + 61 < cLine) {a b : Addr} {ks ls : List (Key × V)} {qs : List (PyData × PyData)} (ha : Rd H a (.dK ks)) (hb : Rd H b (.dK ls)) (pa : Paired (kvR X.K H) ks qs) (pb : Paired (kvR X.K H) ls qs)
    (E Q : Value → Shared → Prop) (q : Q (.bool true) s) : wpAny (model X.prog X.w) A (richCompare .Eq (.ref a) (.ref b)) Q E s := by
  obtain ⟨_, ya, va, ra, da⟩ := (show ObjOk X.prog X.w H s.heap a (.dK ks) from ha.ok I.hok)
  obtain ⟨_, yb, vb, rb, db⟩ := (show ObjOk X.prog X.w H s.heap b (.dK ls) from hb.ok I.hok)
  have nd : (ks.map (·.1)).Nodup := by
    obtain ⟨_, _, _, _, _, _, _, _, nd⟩ := da
    rw [KV.keys ra]
    exact nd
  have hp := two_val (d1_two pa pb)
  refine PySem.W.rcP_dicts (knd := mixKind X.prog X.w) (r := true) ya yb da db (by omega) (fun _ => hits_run (F := fun x y => ∃ p, D0 X.K H x p ∧ D0 X.K H y p) (d0_eq I (A := A.in1) (by show A.units + 1 + 60 < cLine; omega)) rb ra (fun p hm => hp p hm nd)) E Q ?_
  have e : va.length = vb.length := by rw [← ra.length, ← rb.length, paired_length pa, paired_length pb]
  rw [show (va.length == vb.length && true) = true from by rw [e]; simp]
  exact q
theorem d1_kinds {K : PySem.W.Frag} {x y : V} {p : PyData} (h1 : D1 K H x p) (h2 : D1 K H y p) : (D0 K H x p ∧ D0 K H y p) ∨ ∃ a b ks ls qs, x = .ref a ∧ y = .ref b ∧ Rd H a (.dK ks) ∧ Rd H b (.dK ls) ∧ Paired (kvR K H) ks qs ∧ Paired (kvR K H) ls qs := by
  rcases h1 with h1 | ⟨a, ks, qs, e1, e2, e3, e4⟩
  · rcases h2 with h2 | ⟨b, ls, rs, f1, f2, f3, f4⟩
    · exact .inl ⟨h1, h2⟩
    · obtain ⟨h1, f⟩ := h1
      rw [f4] at f
      simp [fine0, noL] at f
  · rcases h2 with h2 | ⟨b, ls, rs, f1, f2, f3, f4⟩
    · obtain ⟨h1, f⟩ := h2
      rw [e4] at f
      simp [fine0, noL] at f
    · rw [e4] at f4
      cases f4
      exact .inr ⟨a, b, ks, ls, qs, e1, f1, e2, f2, e3, f3⟩
theorem d1_eq (I : Inv X pins σ H s) {A : Around} (hu : A.units + 61 < cLine) (x y : V) (v u : Value) (h : ∃ p, D1 X.K H x p ∧ D1 X.K H y p) (rx : RelV x v) (ry : RelV y u) : SeqAt.EqP X.prog X.w A s v u true := by
  obtain ⟨p, h1, h2⟩ := h
  rcases d1_kinds h1 h2 with ⟨h1, h2⟩ | ⟨a, b, ks, ls, qs, rfl, rfl, ha, hb, pa, pb⟩
  · exact d0_eq I (by omega) x y v u ⟨p, h1, h2⟩ rx ry
  · cases (show v = Value.ref a from rx)
    cases (show u = Value.ref b from ry)
    by_cases e : a = b
    · subst e; exact (SeqAt.EqAt.same _).eqP
    · exact SeqAt.eqP_refs e (d1_rc I hu ha hb pa pb)
theorem d1_two' {K : PySem.W.Frag} : ∀ {xs ys : List V} {ps : List PyData}, Paired (D1 K H) xs ps → Paired (D1 K H) ys ps → Paired (fun x y => ∃ p, D1 K H x p ∧ D1 K H y p) xs ys
  | _, _, _, .nil, .nil => .nil
  | _, _, _, .cons a t, .cons b u => .cons ⟨_, a, b⟩ (d1_two' t u)
def rEqX (K : PySem.W.Frag) : R2 := fun x y H Q => (∃ p, D2 K H x p ∧ D2 K H y p) ∧ Q (.bl true) H
theorem op_eqX (hu : X.A.units + 64 < cLine) : OpR X (compareOp .Eq) (rEqX X.K) := by
  intro pins s σ H x y v u Q I rx ry h
  obtain ⟨⟨p, h1, h2⟩, q⟩ := h
  have fin : ∃ w H', Inv X pins σ H' s ∧ RelV w (Value.bool true) ∧ Q w H' := ⟨.bl true, H, I, rfl, q⟩
  rcases h1 with h1 | ⟨a, xs, ps, rfl, hx, px, e1⟩
  · rcases h2 with h2 | ⟨b, ys, rs, rfl, hy, py, e2⟩
    · rcases d1_kinds h1 h2 with ⟨⟨h1, f⟩, h2, _⟩ | ⟨a, b, ks, ls, qs, rfl, rfl, ha, hb, pa, pb⟩
      · obtain ⟨_, c, d⟩ := fine0_of f
        have sh : SeqAt.shaped p = true := by unfold SeqAt.shaped; rw [c, Bool.true_and]; exact decide_eq_true (by omega)
        refine op_eqD hu pins s σ H x y v u Q I rx ry ⟨p, p, h1, h2, sh, sh, ?_⟩
        rw [SeqAt.eqv_refl _ c]
        exact q
      · cases (show v = Value.ref a from rx)
        cases (show u = Value.ref b from ry)
        exact d1_rc I (A := X.A) (by omega) ha hb pa pb _ _ fin
    · rw [e2] at h1
      rcases h1 with ⟨_, f⟩ | ⟨_, _, _, _, _, _, e⟩
      · simp [fine0, noL] at f
      · cases e
  · rcases h2 with h2 | ⟨b, ys, rs, rfl, hy, py, e2⟩
    · rw [e1] at h2
      rcases h2 with ⟨_, f⟩ | ⟨_, _, _, _, _, _, e⟩
      · simp [fine0, noL] at f
      · cases e
    · rw [e1] at e2
      cases e2
      cases (show v = Value.ref a from rx)
      cases (show u = Value.ref b from ry)
      obtain ⟨us, r1, p1, _⟩ := I.list hx
      obtain ⟨ws, r2, p2, _⟩ := I.list hy
      have hp := d1_two' px py
      have hsz : us.toArray.size = ws.toArray.size := by
        rw [List.size_toArray, List.size_toArray, ← r1.length, ← r2.length]
        exact Paired.length hp
      refine SeqAt.rcP_lists (e := fun _ => true) p1.isList p2.isList hsz (by omega) (fun j h1 h2 => ?_) _ _ ?_
      · have k := items_run (F := fun x y => ∃ p, D1 X.K H x p ∧ D1 X.K H y p) (d1_eq I (A := X.A.in1) (by show X.A.units + 1 + 61 < cLine; omega)) hp r1 r2 j (by simpa using h1) (by simpa using h2)
        simpa using k
      · rw [show ((List.range us.toArray.size).all fun _ => true) = true from List.all_eq_true.mpr fun _ _ => rfl]
        exact fin
/-! ### repr -/
theorem kv_reads (I : Inv X pins σ H s) : ∀ {ks : List (Key × V)} {qs : List (PyData × PyData)} {vs : List (Key × Value)} {es : List DictEntry}, Paired (kvR X.K H) ks qs → KV ks vs → Pairs (mixKind X.prog X.w) es vs →
    ReadsAll s.heap (es.map (·.key)) (qs.map (·.1)) [] ∧ ReadsAll s.heap (es.map (·.val)) (qs.map (·.2)) [] := by
  intro ks qs vs es h r p
  unfold KV at r
  induction h generalizing vs es with
  | nil =>
    cases r
    cases p
    exact ⟨.nil, .nil⟩
  | @cons kv q kvs qs a t ih =>
    cases r with
    | cons b u =>
      cases p with
      | cons c d e =>
        obtain ⟨i1, i2⟩ := ih u e
        obtain ⟨a1, a2, f⟩ := a
        obtain ⟨b1, b2⟩ := b
        obtain ⟨as, rd⟩ := Dp.reads I q.2 kv.2 _ a2 b2
        have e0 := noL_reads rd (fine0_of f).1
        subst e0
        refine ⟨?_, ?_⟩
        · refine ReadsAll.cons (as := []) (bs := []) ?_ i1
          dsimp only
          rw [a1, b1]
          rcases keyIs_shape c with ⟨i, t, e1, e2⟩ | ⟨x, t, e1, e2⟩
          · rw [e1, e2]; exact .int i t
          · rw [e1, e2]; exact .str x t
        · refine ReadsAll.cons (as := []) (bs := []) ?_ i2
          dsimp only
          rw [d]
          exact rd
theorem zip_map12 : ∀ (qs : List (PyData × PyData)), (qs.map (·.1)).zip (qs.map (·.2)) = qs
  | [] => rfl
  | q :: qs => by simp [zip_map12 qs]
theorem d1_reads (I : Inv X pins σ H s) {x : V} {v : Value} {p : PyData} (h : D1 X.K H x p) (r : RelV x v) : ∃ as, Reads s.heap v p as ∧ sysModules ∉ as := by
  rcases h with ⟨h, f⟩ | ⟨a, ks, qs, rfl, ha, pa, rfl⟩
  · obtain ⟨as, rd⟩ := Dp.reads I p x v h r
    have e := noL_reads rd (fine0_of f).1
    subst e
    exact ⟨[], rd, by simp⟩
  · cases (show v = Value.ref a from r)
    obtain ⟨_, ya, va, ra, o, es, ep, e1, e2, e3, e4, e5, e6⟩ := (show ObjOk X.prog X.w H s.heap a (.dK ks) from ha.ok I.hok)
    obtain ⟨i1, i2⟩ := kv_reads I pa ra e5
    refine ⟨_, Reads.dict e1 e2.1 e3 i1 i2, ?_⟩
    simp only [List.append_nil, List.mem_singleton]
    intro e
    rw [← e] at ya
    simp at ya
theorem d1_readsAll (I : Inv X pins σ H s) : ∀ {xs : List V} {vs : List Value} {ps : List PyData}, Paired (D1 X.K H) xs ps → Vals xs vs → ∃ as, ReadsAll s.heap vs ps as ∧ sysModules ∉ as
  | _, _, _, .nil, .nil => ⟨[], .nil, by simp⟩
  | _, _, _, .cons a t, .cons b u => by
    obtain ⟨as, r1, n1⟩ := d1_reads I a b
    obtain ⟨bs, r2, n2⟩ := d1_readsAll I t u
    exact ⟨as ++ bs, .cons r1 r2, by simp [n1, n2]⟩
def rReprX (K : PySem.W.Frag) : List V → Hp → VK → Prop := fun xs H Q => ∃ a d, xs = [.ref a] ∧ D2 K H (.ref a) d ∧ d.showable = true ∧ d.depth ≤ 64 ∧ d.shown.length ≤ sizeLine ∧ Q (.str d.shown) H
theorem cr_reprX (hg : X.A.guards = some []) (hu : X.A.units + 66 < cLine) : CallR X (.builtin "repr") (rReprX X.K) := by
  intro pins s σ H vs us Q I rel hh
  obtain ⟨a, d, rfl, h, h1, h2, h3, q⟩ := hh
  rw [Vals.ref1 rel]
  rcases h with h | ⟨b, xs, ps, e, hx, px, rfl⟩
  · obtain ⟨as, rd, no⟩ := d1_reads I (v := .ref a) h rfl
    exact repr_of_reads' rd h1 (fun _ => no) hg (by omega) (fun _ _ e => e) (fun h' u tk keep => ⟨.str d.shown, H, I.kept keep, ⟨u, rfl⟩, q⟩) h3
  · cases e
    obtain ⟨ws, r1, p1, _⟩ := I.list hx
    obtain ⟨as, rd, no⟩ := d1_readsAll I px r1
    obtain ⟨o, ho, hc, n, hd⟩ := p1.isList
    have rl : Reads s.heap (.ref a) (.list ps) (a :: as) := .list ho hc hd rd
    have hz' : (listText (PyData.shownAll ps)).length ≤ sizeLine := by simpa only [PyData.shown] using h3
    obtain ⟨bs, hb, hk⟩ := ReprAllK.of_readsAll (prog := X.prog) (w := X.w) rd (by simpa [PyData.showable] using h1) (fun _ => no) (fun t ht => Nat.le_trans (listText_mem_le ht) hz')
    have hna : a ∉ bs := not_mem_of_deeper rl (by simp only [PyData.depth]; omega) hb
    refine call_repr_slot (by omega) ⟨o, ho, hc⟩ PySem.F.slot_list_repr.toG ?_
    simp only [PyData.depth] at h2
    simp only [PyData.shown] at q ⊢
    cases hw : ws with
    | nil =>
      subst hw
      cases rd
      simp only [PyData.shownAll, listText_nil] at q
      exact call_list_repr_empty ⟨o, ho, hc⟩ ho hd ⟨_, _, rfl, .str "[]", H, I.tok _, ⟨_, rfl⟩, q⟩
    | cons w ws2 =>
      subst hw
      exact call_list_reprK ho hc hd hna (by simpa using hk.length_eq) (fun i y e => hk.item i y (by simpa using e)) hg (fun b _ => Clear.nil b) (by show X.A.units + 1 + _ < cLine; omega) (fun _ _ e => e) (fun h' u tk keep => ⟨_, _, rfl, .str _, H, I.kept keep, ⟨u, rfl⟩, q⟩) hz'
end
/-! ### at the level of values -/
section
variable (st : Store)
def PX0 (d : D) (p : PyData) : Prop := PD st d p ∧ fine0 p = true
def PX1 (d : D) (p : PyData) : Prop := PX0 st d p ∨ ∃ (xs : List Key) (ds : List D) (ps : List PyData), dctOf d st = some (xs.map kD, ds) ∧ ds.length = xs.length ∧ PDs st ds ps ∧ (∀ p ∈ ps, fine0 p = true) ∧ p = .dict ((xs.map kY).zip ps)
def PX2 (d : D) (p : PyData) : Prop := PX1 st d p ∨ ∃ ds ps, rdlOf d st = some ds ∧ Paired (PX1 st) ds ps ∧ p = .list ps
end
section
variable {st : Store}
theorem PX0.det {d : D} {p q : PyData} (h : PX0 st d p) (k : PX0 st d q) : p = q := h.1.det k.1
theorem pd_no_dct {d : D} {p : PyData} (h : PD st d p) {z} (k : dctOf d st = some z) : False := by
  cases h with
  | ref e _ => simp [dctOf, e] at k
  | fref e _ => simp [dctOf, e] at k
  | _ => simp [dctOf] at k
theorem strs_map_inj {a b : List Str} (h : a.map D.str = b.map D.str) : a = b := by
  induction a generalizing b with
  | nil => cases b with
    | nil => rfl
    | cons => cases h
  | cons x xs ih => cases b with
    | nil => cases h
    | cons y ys =>
      simp only [List.map_cons, List.cons.injEq, D.str.injEq] at h
      rw [h.1, ih h.2]
theorem keys_map_inj {a b : List Key} (h : a.map kD = b.map kD) : a = b := by
  induction a generalizing b with
  | nil => cases b with
    | nil => rfl
    | cons => cases h
  | cons x xs ih => cases b with
    | nil => cases h
    | cons y ys =>
      simp only [List.map_cons, List.cons.injEq] at h
      rw [kD_inj h.1, ih h.2]
theorem PX1.det {d : D} {p q : PyData} (h : PX1 st d p) (k : PX1 st d q) : p = q := by
  rcases h with h | ⟨xs, ds, ps, h1, h2, h3, h4, rfl⟩
  · rcases k with k | ⟨ys, es, qs, k1, k2, k3, k4, rfl⟩
    · exact h.det k
    · exact (pd_no_dct h.1 k1).elim
  · rcases k with k | ⟨ys, es, qs, k1, k2, k3, k4, rfl⟩
    · exact (pd_no_dct k.1 h1).elim
    · rw [h1] at k1
      simp only [Option.some.injEq, Prod.mk.injEq] at k1
      obtain ⟨e1, rfl⟩ := k1
      rw [keys_map_inj e1, h3.det k3]
theorem px1_all_det : ∀ {ds : List D} {ps qs : List PyData}, Paired (PX1 st) ds ps → Paired (PX1 st) ds qs → ps = qs
  | _, _, _, .nil, .nil => rfl
  | _, _, _, .cons a t, .cons b u => by rw [a.det b, px1_all_det t u]
theorem px1_no_rdl {d : D} {p : PyData} (h : PX1 st d p) {ds : List D} (k : rdlOf d st = some ds) : False := by
  rcases h with ⟨h, f⟩ | ⟨xs, es, ps, h1, _⟩
  · cases h with
    | lst _ => simp [fine0, noL] at f
    | ref e _ => simp [fine0, noL] at f
    | fref e _ => simp [fine0, noL] at f
    | _ => simp [rdlOf] at k
  · cases d with
    | ref n =>
      cases q : st[n]? with
      | none => simp [dctOf, q] at h1
      | some o => cases o <;> simp [dctOf, rdlOf, q] at h1 k
    | _ => first | (simp [dctOf] at h1; done) | (simp [rdlOf] at k; done)
theorem PX2.det {d : D} {p q : PyData} (h : PX2 st d p) (k : PX2 st d q) : p = q := by
  rcases h with h | ⟨ds, ps, h1, h2, rfl⟩
  · rcases k with k | ⟨es, qs, k1, k2, rfl⟩
    · exact h.det k
    · exact (px1_no_rdl h k1).elim
  · rcases k with k | ⟨es, qs, k1, k2, rfl⟩
    · exact (px1_no_rdl k h1).elim
    · rw [h1] at k1
      cases k1
      rw [px1_all_det h2 k2]
variable {K : PySem.W.Frag} {r : Ad} {H : Hp}
theorem PX0.d0 (S : Sim K r H st) {d : D} {v : V} {p : PyData} (h : PX0 st d p) (hv : RD K r H d v) : D0 K H v p := ⟨h.1.dp S hv, h.2⟩
theorem px_kvs (S : Sim K r H st) : ∀ {xs : List Key} {ds : List D} {ps : List PyData} {kvs : List (Key × V)}, xs.map kD = kvs.map (fun kv => kD kv.1) → RDs K r H ds (kvs.map (·.2)) → PDs st ds ps → (∀ p ∈ ps, fine0 p = true) → Paired (kvR K H) kvs ((xs.map kY).zip ps)
  | [], ds, ps, [], _, h, h2, _ => by
    simp only [List.map_nil, List.zip_nil_left]
    exact .nil
  | [], _, _, _ :: _, h, _, _, _ => by simp at h
  | _ :: _, _, _, [], h, _, _, _ => by simp at h
  | x :: xs, [], _, kv :: kvs, _, h, _, _ => by simp [RDs] at h
  | x :: xs, d :: ds, _, kv :: kvs, e, h, .cons a t, f => by
    simp only [List.map_cons, RDs] at h
    obtain ⟨v, r', e1, h1, h2⟩ := h
    cases e1
    simp only [List.map_cons, List.cons.injEq] at e
    simp only [List.map_cons, List.zip_cons_cons]
    refine .cons ⟨?_, a.dp S h1, f _ (by simp)⟩ (px_kvs S e.2 h2 t fun p hp => f p (List.mem_cons_of_mem _ hp))
    rw [kD_inj e.1]
theorem PX1.d1 (S : Sim K r H st) {d : D} {v : V} {p : PyData} (h : PX1 st d p) (hv : RD K r H d v) : D1 K H v p := by
  rcases h with h | ⟨xs, ds, ps, h1, h2, h3, h4, rfl⟩
  · exact .inl (h.d0 S hv)
  · obtain ⟨a, kvs, rfl, e1, e2, e3⟩ := dctOf_ok S hv h1
    exact .inr ⟨a, kvs, _, rfl, e1, px_kvs S e2 e3 h3 h4, rfl⟩
theorem px1_all (S : Sim K r H st) : ∀ {ds : List D} {vs : List V} {ps : List PyData}, Paired (PX1 st) ds ps → RDs K r H ds vs → Paired (D1 K H) vs ps
  | _, _, _, .nil, h => by simp only [RDs] at h; subst h; exact .nil
  | _, _, _, .cons a t, h => by
    simp only [RDs] at h
    obtain ⟨v, r', rfl, h1, h2⟩ := h
    exact .cons (a.d1 S h1) (px1_all S t h2)
theorem PX2.d2 (S : Sim K r H st) {d : D} {v : V} {p : PyData} (h : PX2 st d p) (hv : RD K r H d v) : D2 K H v p := by
  rcases h with h | ⟨ds, ps, h1, h2, rfl⟩
  · exact .inl (h.d1 S hv)
  · obtain ⟨a, vs, rfl, e1, e2⟩ := rdlOf_ok S hv h1
    exact .inr ⟨a, vs, _, rfl, e1, px1_all S h2 e2, rfl⟩
end
open Classical in
/-- == of data, of dicts of data that are the same -/
noncomputable def oEqX : F2 := fun x y st => match oEqA x y st with
  | some z => some z
  | none => if ∃ p, PX2 st x p ∧ PX2 st y p then some (.bl true, st) else none
open Classical in
theorem oEqX_ok {K : PySem.W.Frag} {R : R2} (h : OpS K R oEqA) : OpS K (fun x y H Q => R x y H Q ∨ rEqX K x y H Q) oEqX := by
  intro r H st d c x y z st' Q S hd hc h2 P
  unfold oEqX at h2
  cases e : oEqA d c st with
  | some w =>
    rw [e] at h2
    cases h2
    exact .inl (h r H st d c x y z st' Q S hd hc e P)
  | none =>
    rw [e] at h2
    dsimp only at h2
    split at h2
    · rename_i hh
      cases h2
      obtain ⟨p, h3, h4⟩ := hh
      exact .inr ⟨⟨p, h3.d2 S hd, h4.d2 S hc⟩, P.bl S⟩
    · cases h2
theorem oEqX_same {x y : D} {st : Store} {p : PyData} (h1 : PX2 st x p) (h2 : PX2 st y p) (hn : oEqA x y st = none) : oEqX x y st = some (.bl true, st) := by
  unfold oEqX
  rw [hn]
  dsimp only
  rw [if_pos ⟨p, h1, h2⟩]
def rReprNon : List V → Hp → VK → Prop := fun xs H Q => xs = [.non] ∧ Q (.str "None") H
theorem cr_reprNon {X : Cx} : CallR X (.builtin "repr") rReprNon := by
  intro pins s σ H vs us Q I rel hh
  obtain ⟨rfl, q⟩ := hh
  obtain ⟨u, rfl, rx⟩ := vals1 rel
  cases rx
  exact PySem.P.repr_of_none ⟨.str "None", H, I.tok _, ⟨_, rfl⟩, q⟩
open Classical in
noncomputable def fReprX : Fn0 := fun as st => match as with
  | [.non] => some (.str "None", st)
  | as => match fReprB as st with
    | some z => some z
    | none => match as with
      | [d] => if h : ((dctOf d st).isSome = true ∨ (rdlOf d st).isSome = true) ∧ ∃ p, PX2 st d p ∧ shows p then some (.str (Classical.choose h.2).shown, st) else none
      | _ => none
def rReprXX (K : PySem.W.Frag) : List V → Hp → VK → Prop := fun xs H Q => rReprNon xs H Q ∨ rReprB K xs H Q ∨ rReprX K xs H Q
theorem cr_reprXX {X : Cx} (hg : X.A.guards = some []) (hu : X.A.units + 66 < cLine) : CallR X (.builtin "repr") (rReprXX X.K) := CallR.or cr_reprNon (CallR.or (cr_reprB hg hu) (cr_reprX hg hu))
theorem fReprX_ok {K : PySem.W.Frag} : CallS K (rReprXX K) fReprX := by
  intro r H st ds vs z st' Q S hs h P
  unfold fReprX at h
  split at h
  · cases h
    obtain ⟨v, rfl, hv⟩ := hs.one
    exact .inl ⟨by rw [hv.non_], P.str S⟩
  · split at h
    · rename_i w e
      cases h
      exact .inr (.inl (fReprB_ok r H st ds vs z st' Q S hs e P))
    · split at h
      · rename_i d _ _
        split at h
        · rename_i hh
          cases h
          obtain ⟨v, rfl, hv⟩ := hs.one
          obtain ⟨p1, p2⟩ := Classical.choose_spec hh.2
          obtain ⟨a, rfl⟩ : ∃ a, v = .ref a := by
            rcases hh.1 with k | k
            · obtain ⟨⟨ks, es⟩, k⟩ := Option.isSome_iff_exists.mp k
              obtain ⟨a, _, e, _⟩ := dctOf_ok S hv k
              exact ⟨a, e⟩
            · obtain ⟨es, k⟩ := Option.isSome_iff_exists.mp k
              obtain ⟨a, _, e, _⟩ := rdlOf_ok S hv k
              exact ⟨a, e⟩
          exact .inr (.inr ⟨a, _, rfl, p1.d2 S hv, p2.1, p2.2.1, p2.2.2, P.str S⟩)
        · cases h
      · cases h
theorem fReprX_of {d : D} {st : Store} {p : PyData} (hp : PX2 st d p) (hs : shows p) (hq : (dctOf d st).isSome = true ∨ (rdlOf d st).isSome = true) (hn : fReprB [d] st = none) : fReprX [d] st = some (.str p.shown, st) := by
  have e : ((dctOf d st).isSome = true ∨ (rdlOf d st).isSome = true) ∧ ∃ p, PX2 st d p ∧ shows p := ⟨hq, p, hp, hs⟩
  have e2 : Classical.choose e.2 = p := (Classical.choose_spec e.2).1.det hp
  unfold fReprX
  cases d with
  | non => rcases hq with h | h <;> simp [dctOf, rdlOf] at h
  | _ =>
    simp only [hn]
    rw [dif_pos e, e2]
end FW

set_option maxHeartbeats 4000000
namespace FW
open PySem PySem.Spec L2

/-! ### walking over a dict that is a value: it is locked for good -/
theorem pe_freeze {X : Cx} {e : Expr} {t : TE} (h : PE X e t) : PE X e (fun σ H Q => t σ H fun x H1 => (∃ d u, x = .ref d ∧ H1 d = some u ∧ Mut (some u) ∧ ∀ od, Q x (upd H1 d (.frz od u))) ∨ Q x H1) := by
  refine ⟨fun pins s σ H Q I hw => ?_⟩
  refine thn (h.run pins s σ _ _ I hw) fun v s1 ⟨x, H1, I1, r, q⟩ => ?_
  rcases q with ⟨d, u, ex, hd, mu, q⟩ | q
  · obtain ⟨od, I2⟩ := I1.lock hd mu
    exact ⟨x, _, I2, r, q od⟩
  · exact ⟨x, H1, I1, r, q⟩
section
variable {K : PySem.W.Frag} {r : Ad} {H : Hp} {st : Store}
/-- a value's dict is locked -/
theorem Sim.freeze (S : Sim K r H st) {d : Addr} {kvs : List (Key × V)} (od : Obj) (h : H d = some (.dK kvs)) (n : r.out d) : Sim K r (upd H d (.frz od (.dK kvs))) st ∧ Ext K r H r (upd H d (.frz od (.dK kvs))) := by
  have kf : ∀ a o, H a = some o → Kf o (upd H d (.frz od (.dK kvs)) a) := fun a o e => by
    by_cases c : a = d
    · subst c
      rw [h] at e
      cases e
      exact .inr ⟨kvs, od, rfl, upd_same⟩
    · exact .inl (by rw [upd_ne c]; exact e)
  have x : Ext K r H r (upd H d (.frz od (.dK kvs))) := ⟨rfl, ⟨[], by simp, by simp⟩, fun a o e m => by
    by_cases c : a = d
    · subst c
      rw [h] at e
      cases e
      exact .inr ⟨n.2, kvs, od, rfl, upd_same⟩
    · exact .inl (by rw [upd_ne c]; exact e), S.tups fun a o e _ => kf a o e⟩
  refine ⟨⟨S.len, S.nd, fun a m => ?_, fun i a ob e1 e2 => ?_⟩, x⟩
  · have na : a ≠ d := fun z => n.2 (z ▸ m)
    rw [upd_ne na]
    exact S.xs a m
  · have q := S.ob i a ob e1 e2
    have na : a ≠ d := fun z => n.1 (z ▸ List.mem_of_getElem? e1)
    rw [upd_ne na]
    exact q.mono x
end
def iKeysF (m : M D) : M Itm := xbnd m fun d _ st => match d with
  | .dct ks _ => some (.ok ⟨ks, []⟩, st)
  | _ => none
theorem itOk_keys {K : PySem.W.Frag} {r : Ad} {H : Hp} {a : Addr} {od : Obj} {kvs : List (Key × V)} (h : H a = some (.frz od (.dK kvs))) (n : r.out a) : ItOk K r H ⟨kvs.map (fun kv => kD kv.1), []⟩ (Itk a od kvs) := by
  intro r1 H1 st1 S t _
  have e : H1 a = some (.frz od (.dK kvs)) := (t.obj a _ h (fun _ z => by cases z) n).1.frz
  refine ⟨fun i hi => ⟨e, by simpa using hi⟩, fun i d hd => ?_⟩
  rw [List.getElem?_map] at hd
  obtain ⟨kv, h1, rfl⟩ := Option.map_eq_some_iff.mp hd
  refine ⟨⟨e, (List.getElem?_eq_some_iff.mp h1).1⟩, fun x H2 hy => ?_⟩
  obtain ⟨rfl, k, v, h2, rfl⟩ := hy
  rw [h1] at h2
  cases h2
  exact ⟨S, Ext.refl _ _ _, by cases k <;> simp only [kD, kV, RD]⟩
theorem i_keys {X : Cx} {EW : EWt} {tg a : Expr} {m : M D} (h : E X EW a m) : I_ X EW tg a (iKeysF m) := by
  refine PI.weak (pi_keys (pe_freeze h)) ?_
  rintro σ H Q ⟨r, e, st, out, st', S, hE, h, P⟩
  refine bnd_stepI S hE h P fun r1 H1 v d st1 S1 x1 hE1 hd h1 => ?_
  cases d with
  | dct ks ds =>
    cases h1
    simp only [RD] at hd
    obtain ⟨a, kvs, rfl, s, n, rfl, q⟩ := hd
    rcases s with s | ⟨od, s⟩
    · refine .inl ⟨a, _, rfl, s, trivial, fun od => ⟨a, od, rfl, .inl ⟨kvs, upd_same, ?_⟩⟩⟩
      obtain ⟨S2, x2⟩ := S1.freeze od s n
      exact P r1 _ _ S2 (Ext.trans' S S1 x1 x2) (itOk_keys upd_same n)
    · exact .inr ⟨a, od, rfl, .inl ⟨kvs, s, P r1 _ _ S1 x1 (itOk_keys s n)⟩⟩
  | _ => cases h1
/-! ### str(i), f'..{i}' -/
def rStrI : List V → Hp → VK → Prop := fun xs H Q => ∃ i, xs = [V.int i] ∧ i.natAbs.log2 < 1920 ∧ Q (.str (toString i)) H
def fStrI : Fn0 := fun as st => match as with
  | [.int i] => if i.natAbs.log2 < 1920 then some (.str (toString i), st) else none
  | _ => none
theorem fStrI_ok {K : PySem.W.Frag} : CallS K rStrI fStrI := by
  intro r H st ds vs z st' Q S hs h P
  unfold fStrI at h
  split at h
  · split at h
    · rename_i hl
      cases h
      obtain ⟨v, rfl, hv⟩ := hs.one
      exact ⟨_, by rw [hv.int_], hl, P.str S⟩
    · cases h
  · cases h
/-- f'z{m}' -/
def xFs2 (z : Str) (m : M D) : M D := fun e st => if (Str.empty ++ z).length ≤ sizeLine then bnd (m e st) fun d st1 => match d with
  | .int i => if i.natAbs.log2 < 1920 ∧ (Str.empty ++ z ++ (toString i : Str)).length ≤ sizeLine then some (.ok (.str (Str.empty ++ z ++ (toString i : Str))), st1) else none
  | _ => none else none
theorem e_fs2 {X : Cx} {EW : EWt} {z : Str} {a : Expr} {j} {p1 p2 p3 : Pos} {m : M D} (ha : E X EW a m) : E X EW (.JoinedStr [.Constant (.str z) j p1, .FormattedValue a (-1) none p2] p3) (xFs2 z m) := by
  refine PE.weak (pe_joined (.cons pe_str (.cons (pe_fmt ha) .nil))) ?_
  rintro σ H Q ⟨r, e, st, out, st', S, hE, h, P⟩
  unfold xFs2 at h
  split at h
  · rename_i hz
    refine ⟨z, rfl, hz, ?_⟩
    refine bnd_step S hE h P fun r1 H1 v d st1 S1 x1 hE1 hd h1 P1 => ?_
    cases d with
    | int i =>
      dsimp only at h1
      split at h1
      · rename_i hi
        cases h1
        simp only [RD] at hd
        subst hd
        exact .inr ⟨i, rfl, hi.1, _, rfl, hi.2, P1 r1 H1 _ S1 (Ext.refl _ _ _) (by simp only [RD])⟩
      · cases h1
    | _ => cases h1
  · cases h
/-! ### dict(d): a copy -/
noncomputable def oDictB : Fo0 := fun as st => match as with
  | [d] => match dctOf d st with
    | some p => some (.dct p.1 p.2)
    | none => oDict as st
  | _ => oDict as st
def rDictB (K : PySem.W.Frag) : List V → Hp → VK → Prop := fun xs H Q => (∃ (a : Addr) (kvs : List (Key × V)), xs = [.ref a] ∧ Rd H a (.dK kvs) ∧ ∀ p, H p = none → Q (.ref p) (upd H p (.dK kvs))) ∨ rDictP K xs H Q
theorem cr_dictB {X : Cx} (calm : X.calm = true) : CallR X (.type "dict") (rDictB X.K) := CallR.or call_dictD (cr_dictP calm)
theorem oDictB_ok {K : PySem.W.Frag} : FoS K (rDictB K) oDictB := by
  intro r H st ds vs ob Q S hs h P
  unfold oDictB at h
  split at h
  · rename_i d
    split at h
    · rename_i p e
      obtain ⟨ks, xs⟩ := p
      cases h
      obtain ⟨v, rfl, hv⟩ := hs.one
      obtain ⟨a, kvs, rfl, s, k, t⟩ := dctOf_ok S hv e
      exact .inl ⟨a, kvs, rfl, s, fun p hp => P p _ hp ⟨_, rfl, k, t⟩⟩
    · exact .inr (oDict_ok r H st _ vs ob Q S hs h P)
  · exact .inr (oDict_ok r H st _ vs ob Q S hs h P)
end FW

set_option maxHeartbeats 4000000
namespace FW
open PySem PySem.Spec PyProof.Rows L2

/-! ### a statement that is never reached -/
def sNever : MS := fun _ _ => none
theorem s_never {X : Cx} {EW : EWt} {st : Stmt} : S_ X EW st sNever :=
  ⟨fun pins s σ H D I h => by obtain ⟨r, e, st, out, st', S, hE, h, P⟩ := h; cases h⟩
@[simp] theorem ev_sNever {e : Env} {st : Store} : sNever e st = none := rfl
/-! ### max of a list of ints -/
def mxI : List Int → Option Int
  | [] => none
  | i :: is => some (is.foldl max i)
theorem foldl_max {is : List Int} : ∀ {i : Int}, (i ≤ is.foldl max i) ∧ (∀ y ∈ is, y ≤ is.foldl max i) ∧ (is.foldl max i = i ∨ is.foldl max i ∈ is) := by
  induction is with
  | nil => intro i; exact ⟨Int.le_refl _, (fun _ h => by cases h), .inl rfl⟩
  | cons a is ih =>
    intro i
    obtain ⟨h1, h2, h3⟩ := ih (i := max i a)
    simp only [List.foldl_cons]
    refine ⟨by omega, fun y hy => ?_, ?_⟩
    · rcases List.mem_cons.mp hy with rfl | hy
      · omega
      · exact h2 y hy
    · rcases h3 with h3 | h3
      · rw [h3]
        by_cases q : a ≤ i
        · exact .inl (by omega)
        · exact .inr (List.mem_cons.mpr (.inl (by omega)))
      · exact .inr (List.mem_cons_of_mem _ h3)
theorem mxI_eq {is : List Int} {m : Int} (hm : m ∈ is) (h : ∀ y ∈ is, y ≤ m) : mxI is = some m := by
  cases is with
  | nil => cases hm
  | cons i is =>
    obtain ⟨h1, h2, h3⟩ := foldl_max (is := is) (i := i)
    have e1 : is.foldl max i ≤ m := by
      rcases h3 with h3 | h3
      · rw [h3]; exact h i (by simp)
      · exact h _ (List.mem_cons_of_mem _ h3)
    have e2 : m ≤ is.foldl max i := by
      rcases List.mem_cons.mp hm with rfl | hm
      · exact h1
      · exact h2 m hm
    show some _ = some _
    rw [Int.le_antisymm e1 e2]
def fMaxL : Fn0 := fun as st => match as with
  | [d] => match rdI d st with
    | some ns => match mxI ns with
      | some m => some (.int m, st)
      | none => none
    | none => none
  | _ => none
theorem fMaxL_ok {K : PySem.W.Frag} : CallS K (rMax K) fMaxL := by
  intro r H st ds vs z st' Q S hs h P
  unfold fMaxL at h
  split at h
  · obtain ⟨v, rfl, hv⟩ := hs.one
    split at h
    · rename_i ns e
      split at h
      · rename_i m em
        cases h
        obtain ⟨a, rfl, s⟩ := rdI_ok S hv e
        refine ⟨a, ns, rfl, s, ?_, fun m' hm' hy => ?_⟩
        · cases ns with
          | nil => cases em
          | cons => simp
        · rw [mxI_eq hm' hy] at em
          cases em
          exact P.int S
      · cases h
    · cases h
  · cases h
/-! ### d.items() of a dict that is a value -/
def pairZ (ks ds : List D) : List D := List.zipWith (fun k d => .ztp [k, d]) ks ds
def iItemsF (m : M D) : M Itm := xbnd m fun d _ st => match d with
  | .dct ks ds => some (.ok ⟨pairZ ks ds, []⟩, st)
  | _ => none
theorem itOk_items {K : PySem.W.Frag} {r : Ad} {H : Hp} {a : Addr} {od : Obj} {kvs : List (Key × V)} {ds : List D} (h : H a = some (.frz od (.dK kvs))) (n : r.out a) (q : RDs K r H ds (kvs.map (·.2))) : ItOk K r H ⟨pairZ (kvs.map (fun kv => kD kv.1)) ds, []⟩ (Iti a od kvs) := by
  intro r1 H1 st1 S t _
  have e : H1 a = some (.frz od (.dK kvs)) := (t.obj a _ h (fun _ z => by cases z) n).1.frz
  have q1 : RDs K r1 H1 ds (kvs.map (·.2)) := q.tr t
  have ql := q1.length
  rw [List.length_map] at ql
  refine ⟨fun i hi => ⟨e, by simp only [pairZ, List.length_zipWith, List.length_map] at hi; omega⟩, fun i d hd => ?_⟩
  unfold pairZ at hd
  rw [List.getElem?_zipWith, List.getElem?_map] at hd
  cases e1 : kvs[i]? with
  | none => rw [e1] at hd; simp at hd
  | some kv =>
    rw [e1] at hd
    obtain ⟨k, v⟩ := kv
    have li := (List.getElem?_eq_some_iff.mp e1).1
    have e2 : ds[i]? = some (ds[i]'(by omega)) := List.getElem?_eq_getElem _
    rw [e2] at hd
    simp only [Option.map_some, Option.some.injEq] at hd
    subst hd
    obtain ⟨v', g1, g2⟩ := q1.get e2
    rw [List.getElem?_map, e1] at g1
    simp only [Option.map_some, Option.some.injEq] at g1
    subst g1
    refine ⟨⟨e, li⟩, fun x H2 hy => ?_⟩
    obtain ⟨T, k2, v2, h2, rfl, hT, rfl⟩ := hy
    rw [e1] at h2
    cases h2
    obtain ⟨S2, x2⟩ := S.side (o := .tup [kV k, v]) hT
    exact ⟨S2, x2, by simp only [RD]; exact ⟨T, [kV k, v], rfl, ⟨.of upd_same, fun z => by cases z⟩, RDs.cons (by cases k <;> simp only [kD, kV, RD]) (RDs.cons (g2.mono x2) RDs.nil)⟩⟩
theorem i_items {X : Cx} {EW : EWt} {elts : List Expr} {kk : Nat} {tpos apos cpos : Pos} {a : Expr} {m : M D} (h : E X EW a m) (hbase : attributeBase a "items" X.env (eval a X.env) = eval a X.env := by rfl) (hline : (apos.endLine == cpos.line) = true := by rfl) :
    I_ X EW (.Tuple elts kk tpos) (.Call (.Attribute a "items" apos) [] [] cpos) (iItemsF m) := by
  refine PI.weak (pi_items (pe_freeze h) hbase hline) ?_
  rintro σ H Q ⟨r, e, st, out, st', S, hE, h, P⟩
  refine bnd_stepI S hE h P fun r1 H1 v d st1 S1 x1 hE1 hd h1 => ?_
  cases d with
  | dct ks ds =>
    cases h1
    simp only [RD] at hd
    obtain ⟨a, kvs, rfl, s, n, rfl, q⟩ := hd
    rcases s with s | ⟨od, s⟩
    · refine .inl ⟨a, _, rfl, s, trivial, fun od => ⟨a, od, kvs, rfl, upd_same, ?_⟩⟩
      obtain ⟨S2, x2⟩ := S1.freeze od s n
      exact P r1 _ _ S2 (Ext.trans' S S1 x1 x2) (itOk_items upd_same n (q.mono x2))
    · exact .inr ⟨a, od, kvs, rfl, s, P r1 _ _ S1 x1 (itOk_items s n q)⟩
  | _ => cases h1
/-! ### d.setdefault(k, x), d.clear() -/
theorem mt_setd {X : Cx} : MtR X "dict.setdefault" rSetd := by
  intro pins s σ H x vs v0 us Q I rx rv h
  obtain ⟨a, kvs, k, v, rfl, rfl, ea, hl, w1, w2⟩ := h
  cases rx
  cases rv with
  | cons ry rv =>
    cases rv with
    | cons rd rv =>
      cases rv
      obtain ⟨z, hd, vs0, rel, dd⟩ := dk_of I.hok ea
      have hz : vs0.length ≤ sizeLine := by rw [← rel.length]; exact z
      refine call_meetsIn F.slot_dict_setdefault dd.typeIs F.entry_dict_setdefault (F.args_dict_setdefault_3 _ _ _) (kt_meets_setdefault (mixKind X.prog X.w) _ (kV_is ry) hd _) ⟨vs0, dd, hz, fun u hu => ?_, fun hn h' dd' hs => ?_⟩
      · have rr := rel.val k
        rw [hu] at rr
        cases hv : valV kvs k with
        | none => rw [hv] at rr; exact False.elim rr
        | some x =>
          rw [hv] at rr
          exact (⟨x, H, I.tok _, rr, w1 x hv⟩ : EP X pins σ Q u _)
      · have rr := rel.val k
        rw [hn] at rr
        cases hv : valV kvs k with
        | some x => rw [hv] at rr; exact False.elim rr
        | none =>
          have hl2 : (putK kvs k v).length ≤ sizeLine := by have := length_putK kvs k v; omega
          exact (⟨v, _, d_write (t' := s.toks + 1) I (by rw [ea]; exact True.intro) hs (let ⟨q, _, _, hq, _⟩ := dd'; ⟨q, hq⟩) (dk_new hl2 hd (rel.put k rd) dd'), rd, w2 hv⟩ : EP X pins σ Q _ _)
noncomputable def mSetd : FM := fun d as st => match mutD d st, as with
  | some (n, ks, ds), [k, x] => if (keyD k).isSome = true ∧ ks.length < sizeLine then
      match dGet ks ds k with
      | some u => some (u, st)
      | none => some (x, st.set n (.dct (dPut ks ds k x).1 (dPut ks ds k x).2)) else none
  | _, _ => none
theorem mSetd_ok {K : PySem.W.Frag} : MethS K rSetd mSetd := by
  intro r H st d ds x vs z st' Q S hd hs h P
  unfold mSetd at h
  split at h
  · rename_i n ks xs k y e1
    split at h
    · rename_i hh
      obtain ⟨h1, h2⟩ := hh
      obtain ⟨a, kvs, rfl, hn, s, hk, t⟩ := mutD_ok S hd e1
      obtain ⟨u, w, rfl, hu, hw⟩ := hs.two
      obtain ⟨k', ek⟩ := Option.isSome_iff_exists.mp h1
      obtain ⟨rfl, rfl⟩ := keyD_ok ek hu
      subst hk
      have g := dGet_ok (k := k') t
      rw [List.length_map] at h2
      refine ⟨a, kvs, k', w, rfl, rfl, s, h2, fun u hu => ?_, fun hu => ?_⟩
      · split at h
        · rename_i c ec
          rw [ec] at g
          cases h
          obtain ⟨v2, g1, g2⟩ := g
          rw [hu] at g1
          cases g1
          exact P.here S g2
        · rename_i ec
          rw [ec] at g
          dsimp only at g
          rw [hu] at g
          cases g
      · split at h
        · rename_i c ec
          rw [ec] at g
          obtain ⟨v2, g1, g2⟩ := g
          rw [hu] at g1
          cases g1
        · cases h
          obtain ⟨p1, p2⟩ := dPut_ok (k := k') hw t
          exact P.putD S hn p1 p2 hw
    · cases h
  · cases h
def rClrD : V → List V → Hp → VK → Prop := fun x vs H Q => ∃ (a : Addr) (kvs : List (Key × V)), x = .ref a ∧ vs = [] ∧ H a = some (.dK kvs) ∧ Q .non (upd H a (.dK []))
theorem mt_clrD {X : Cx} : MtR X "dict.clear" rClrD := by
  intro pins s σ H x vs v us Q I rx rv h
  obtain ⟨a, kvs, rfl, rfl, ha, q⟩ := h
  cases rx
  have hus := rv.zero
  subst hus
  exact d_clear I ha fun s' I' => ⟨.non, _, I', rfl, q⟩
def mClrD : FM := fun d as st => match mutD d st, as with
  | some (n, ks, ds), [] => some (.non, st.set n (.dct [] []))
  | _, _ => none
theorem mClrD_ok {K : PySem.W.Frag} : MethS K rClrD mClrD := by
  intro r H st d ds x vs z st' Q S hd hs h P
  unfold mClrD at h
  split at h
  · rename_i n ks xs e1
    cases h
    obtain ⟨a, kvs, rfl, hn, s, hk, t⟩ := mutD_ok S hd e1
    exact ⟨a, kvs, rfl, hs.nil_, s, P.putD S hn (ks := []) (ds' := []) (kvs := []) rfl RDs.nil RD.non0⟩
  · cases h
end FW

set_option maxHeartbeats 4000000
namespace PySem
open Sem (wp)
open AutoSeq1 (wpAny_loadPart')
section
variable {prog : Program} {w : World} {A : Around} {E : Value → Shared → Prop} {s : Shared} {K : Type} [DecidableEq K] {knd : KeyKind prog w K} {d : Addr} {kvs : List (K × Value)} {ep : Nat}
theorem code_tuple_new_dict {Q₁ : Value → Shared → Prop} (lo : (d == sysModules) = false) (hh : A.handled = none) (hm : s.heap.DictAt knd d kvs ep) (hsz : kvs.length ≤ sizeLine)
    (h : ∀ (h' : Heap) (tk : Nat) (acc : Array Value), (∀ b o, s.heap.get? b = some o → h'.get? b = some o) → ItemsOf (fun i v => ∃ k x, kvs[i]? = some (k, x) ∧ knd.is k v = true) acc kvs.length → Q₁ (.ref h'.objs.size) { s with heap := h'.push { cls := .type "tuple", data := .seq acc }, toks := tk }) :
    codeAny (model prog w) A (.call (.builtin "tuple.__new__") ⟨[.type "tuple", .ref d], []⟩) (wants Q₁ E) s := by
  refine codeAny_of_tree ?_
  show wpAny _ A.in1 (do checkBuiltinCall "tuple.__new__" ⟨[.type "tuple", .ref d], []⟩; again (.builtin "tuple.__new__" ⟨[.type "tuple", .ref d], []⟩)) _ _ s
  refine wpAny_bind (wpAny_of_eq (F.newCall_tuple_1 _) (wpAny_pure ⟨plainId_quiet F.plain_tuple_new _, codeAny_builtin F.entry_tuple_new ?_⟩))
  rw [Around.under_plainId F.plain_tuple_new _]
  have hsub := sub_tuple_self
  have hinit := init_tuple_lookup
  have hmh := madeHere_tuple
  have hTI := hm.dictOf.typeIs
  have hh1 : A.in1.handled = none := hh
  wp_walk using wpAny_typeOf hTI, (PySem.W.kdu_collect (A := A.in1) (PySem.W.kdl_dict (knd := knd) (kvs := kvs) (ep := ep) lo) hh1 hm hsz)
  intro h' tk acc hk hacc
  show wpAny _ _ (Builtin.Tuple.tupleExact acc.toList.toArray >>= fun v => ret v) _ _ _
  unfold Builtin.Tuple.tupleExact
  refine wpAny_bind (wpAny_newObj_type ?_ (by show acc.toList.toArray.size ≤ sizeLine; simp only [Array.toArray_toList]; rw [hacc.1]; exact hsz))
  refine wpAny_pure ?_
  have e : acc.toList.toArray = acc := by simp
  rw [e]
  exact h h' tk acc hk hacc
theorem call_tuple_dict {Q : Value → Shared → Prop} (lo : (d == sysModules) = false) (hh : A.handled = none) (hm : s.heap.DictAt knd d kvs ep) (hsz : kvs.length ≤ sizeLine)
    (hQ : ∀ (h' : Heap) (tk : Nat) (acc : Array Value), (∀ b o, s.heap.get? b = some o → h'.get? b = some o) → ItemsOf (fun i v => ∃ k x, kvs[i]? = some (k, x) ∧ knd.is k v = true) acc kvs.length → Q (.ref h'.objs.size) { s with heap := h'.push { cls := .type "tuple", data := .seq acc }, toks := tk }) :
    wpAny (model prog w) A (call (.type "tuple") [.ref d]) Q E s := by
  refine callType_codes (Q₁ := fun obj s₁ => s₁.TypeIs obj "tuple" ∧ Q obj s₁) F.called_tuple (F.typeCall_tuple_1 _) F.entry_object_init
    (code_tuple_new_dict lo hh hm hsz fun h' tk acc hk hacc => ⟨⟨_, Heap.get?_push_size _ rfl, rfl⟩, hQ h' tk acc hk hacc⟩) fun obj s₁ h₁ => ?_
  exact ⟨h₁.1, F.args_object_init_2 obj _, object_init_meets F.called_tuple.init.lookup F.called_tuple.made (by decide) prog w A.in1 _ s₁ ⟨h₁.1, rfl, h₁.2⟩⟩
end
end PySem
namespace FW
open PySem PySem.Spec PyProof.Rows L2
/-! ### tuple(d): a dict's keys -/
theorem vals_keys : ∀ (kvs : List (Key × V)) (l : List Value) (vs : List (Key × Value)), vs.map (·.1) = kvs.map (·.1) → l.length = kvs.length → (∀ (j : Nat) (u : Value), l[j]? = some u → ∃ k x, vs[j]? = some (k, x) ∧ keyIs k u = true) → Vals (kvs.map fun kv => kV kv.1) l
  | [], [], _, _, _, _ => .nil
  | [], _ :: _, _, _, h, _ => by simp at h
  | _ :: _, [], _, _, h, _ => by simp at h
  | kv :: kvs, u :: l, vs, e, h, g => by
    cases vs with
    | nil => simp at e
    | cons v vs =>
      simp only [List.map_cons, List.cons.injEq] at e
      obtain ⟨k, x, g1, g2⟩ := g 0 u rfl
      simp only [List.getElem?_cons_zero, Option.some.injEq] at g1
      subst g1
      refine .cons (relV_key (by rw [← e.1]; exact g2)) (vals_keys kvs l vs e.2 (by simpa using h) fun j u hj => ?_)
      obtain ⟨k2, x2, g3, g4⟩ := g (j + 1) u (by simpa using hj)
      exact ⟨k2, x2, by simpa using g3, g4⟩
def rTupD : List V → Hp → VK → Prop := fun xs H Q => ∃ (a : Addr) (kvs : List (Key × V)), xs = [.ref a] ∧ Rd H a (.dK kvs) ∧ NewT H Q (kvs.map fun kv => kV kv.1)
theorem cr_tupD {X : Cx} (calm : X.calm = true) : CallR X (.type "tuple") rTupD := by
  intro pins s σ H vs us Q I rel hh
  obtain ⟨a, kvs, rfl, hd, q⟩ := hh
  rw [Vals.ref1 rel]
  rcases dk_rd I.hok hd with ⟨small, lo, vs, rl, dd⟩
  rcases dd.dictAt with ⟨ep, at_⟩
  have e1 : vs.length = kvs.length := rl.length.symm
  refine call_tuple_dict lo (I.ok.hd calm) at_ (by rw [e1]; exact small) fun h' tk acc keep got => ?_
  have I1 : Inv X pins σ H { s with heap := h', toks := tk } := I.kept keep
  have hv : Vals (kvs.map fun kv => kV kv.1) acc.toList := vals_keys kvs acc.toList vs (rl.keys.symm) (by rw [Array.length_toList, got.1, e1]) fun j u hu => got.2 j u (by simpa using hu)
  exact laidT I1 hv (by simp) (by rw [List.length_map]; exact small) q _ _
noncomputable def fTupleD : Fn0 := fun as st => match fTuple as st with
  | some z => some z
  | none => match as with
    | [d] => match dctOf d st with
      | some p => some (.tup p.1, st)
      | none => none
    | _ => none
theorem keys_rd {K : PySem.W.Frag} {r : Ad} {H : Hp} : ∀ (kvs : List (Key × V)), RDs K r H (kvs.map fun kv => kD kv.1) (kvs.map fun kv => kV kv.1)
  | [] => RDs.nil
  | (k, v) :: kvs => RDs.cons (by cases k <;> simp only [kD, kV, RD]) (keys_rd kvs)
theorem fTupleD_ok {K : PySem.W.Frag} : CallS K (fun xs H Q => rTupleP K xs H Q ∨ rTupD xs H Q) fTupleD := by
  intro r H st ds vs z st' Q S hs h P
  unfold fTupleD at h
  cases e : fTuple ds st with
  | some w =>
    rw [e] at h
    cases h
    exact .inl (fTuple_ok r H st ds vs z st' Q S hs e P)
  | none =>
    rw [e] at h
    dsimp only at h
    split at h
    · rename_i d
      obtain ⟨v, rfl, hv⟩ := hs.one
      split at h
      · rename_i p ep
        cases h
        obtain ⟨ks, xs⟩ := p
        obtain ⟨a, kvs, rfl, hd, hk, t⟩ := dctOf_ok S hv ep
        subst hk
        exact .inr ⟨a, kvs, rfl, hd, P.tup S (keys_rd kvs)⟩
      · cases h
    · cases h
end FW

set_option maxHeartbeats 4000000
namespace FW
open PySem PySem.Spec PyProof.Rows L2
/-! ### tuple(text): its signs -/
def sgnsV (x : Str) : List V := x.cps.toList.map fun c => V.str ⟨#[c]⟩
def rTupS : List V → Hp → VK → Prop := fun xs H Q => ∃ x : Str, xs = [.str x] ∧ x.cps.size ≤ sizeLine ∧ NewT H Q (sgnsV x)
theorem cr_tupS {X : Cx} (calm : X.calm = true) : CallR X (.type "tuple") rTupS := by
  intro pins s σ H vs us Q I rel hh
  obtain ⟨x, rfl, hz, q⟩ := hh
  obtain ⟨u, rfl, ru⟩ := vals1 rel
  obtain ⟨t, rfl⟩ := ru
  refine call_tuple_str (I.ok.hd calm) x t (fun h' tk acc keep got => ?_) hz
  have I1 : Inv X pins σ H { s with heap := h', toks := tk } := I.kept keep
  have hv : ∀ (cs : List Nat) (l : List Value), l.length = cs.length → (∀ (j : Nat) (u : Value), l[j]? = some u → ∃ (c : Nat) (t : Tok), cs[j]? = some c ∧ u = Value.str ⟨#[c]⟩ t) → Vals (cs.map fun c => V.str ⟨#[c]⟩) l := by
    intro cs
    induction cs with
    | nil =>
      intro l hl _
      cases l with
      | nil => exact .nil
      | cons u l => simp at hl
    | cons c cs ih =>
      intro l hl h
      cases l with
      | nil => simp at hl
      | cons u l =>
        obtain ⟨c', t, e1, rfl⟩ := h 0 u rfl
        simp only [List.getElem?_cons_zero, Option.some.injEq] at e1
        subst e1
        exact .cons ⟨t, rfl⟩ (ih l (by simpa using hl) fun j u hj => by
          obtain ⟨c2, t2, e2, e3⟩ := h (j + 1) u (by simpa using hj)
          exact ⟨c2, t2, by simpa using e2, e3⟩)
  have hv2 : Vals (sgnsV x) acc.toList := hv x.cps.toList acc.toList (by rw [Array.length_toList, got.1, Array.length_toList]) fun j u hj => by
    obtain ⟨c, t, e, rfl⟩ := got.2 j u (by simpa using hj)
    exact ⟨c, t, by simpa using e, rfl⟩
  exact laidT I1 hv2 (by simp) (by unfold sgnsV; rw [List.length_map, Array.length_toList]; exact hz) q _ _
def fTupleS : Fn0 := fun as st => match as with
  | [.str x] => if x.cps.size ≤ sizeLine then some (.tup (sgnsD x), st) else none
  | as => fTuple as st
theorem signs_rd {K : PySem.W.Frag} {r : Ad} {H : Hp} : ∀ (cs : List Nat), RDs K r H (cs.map fun c => D.str ⟨#[c]⟩) (cs.map fun c => V.str ⟨#[c]⟩)
  | [] => RDs.nil
  | c :: cs => RDs.cons (by simp only [RD]) (signs_rd cs)
theorem fTupleS_ok {K : PySem.W.Frag} : CallS K (fun xs H Q => rTupleP K xs H Q ∨ rTupS xs H Q) fTupleS := by
  intro r H st ds vs z st' Q S hs h P
  unfold fTupleS at h
  split at h
  · rename_i x
    split at h
    · rename_i hz
      cases h
      obtain ⟨v, rfl, hv⟩ := hs.one
      simp only [RD] at hv
      subst hv
      exact .inr ⟨x, rfl, hz, P.tup S (signs_rd x.cps.toList)⟩
    · cases h
  · exact .inl (fTuple_ok r H st ds vs z st' Q S hs h P)
end FW

set_option maxHeartbeats 4000000
namespace FW
namespace K06
open PySem PySem.Spec L2
/-- 0 thing -/
noncomputable def m_is_integer_1 : MS := (sRet (xAndV (xN oIsi (aC (xV 0) (aC (xC (.cst (.ty "int"))) aN))) (xNotV (xN oIsi (aC (xV 0) (aC (xC (.cst (.ty "bool"))) aN))))))
noncomputable def m_is_integer : MS := m_is_integer_1
noncomputable def F_is_integer : Fn0 := runF 1 m_is_integer
noncomputable abbrev G_is_integer : Fn0 := F_is_integer
/-- 0 thing -/
noncomputable def m_is_number_1 : MS := (sRet (xAndV (xCl 1 G_is_integer (aC (xV 0) aN)) (xBl (xChn oLeA oLeA (xC (.int (-2147483648))) (xV 0) (xC (.int (2147483647)))))))
noncomputable def m_is_number : MS := m_is_number_1
noncomputable def F_is_number : Fn0 := runF 1 m_is_number
noncomputable abbrev G_is_number : Fn0 := F_is_number
/-- 0 line 1 column 2 signs -/
noncomputable def m_run_end_1b1 : MS := (sAug 1 (fIp (fun i j => i + j)) (xC (.int 1)))
noncomputable def b_run_end_1b : MS := m_run_end_1b1
noncomputable def t_run_end_1 : M Bool := (xAnd (xTst (x2 oLt (xV 1) (xN fLen (aC (xV 0) aN)))) (xTst (x2 (oInS1 false) (x2 oIx (xV 0) (xV 1)) (xV 2))))
noncomputable def m_run_end_1 : MS := (sWhile t_run_end_1 b_run_end_1b)
noncomputable def m_run_end_2 : MS := (sRet (xV 1))
noncomputable def m_run_end : MS := (sSeq m_run_end_1 m_run_end_2)
noncomputable def F_run_end : Fn0 := runF 3 m_run_end
noncomputable abbrev G_run_end : Fn0 := F_run_end
/-- 0 line 1 row 2 column 3 end 4 behind -/
noncomputable def m_name_end_2t1 : MS := (sRaise "NoText" ([("line" : Str), ("column" : Str)] : List Str) (aC (xV 1) (aC (xV 2) aN)))
noncomputable def b_name_end_2t : MS := m_name_end_2t1
noncomputable def t_name_end_2 : M Bool := (xTst (x2 oGt (x2 oSub (xV 3) (xV 2)) (xC (.int (20)))))
noncomputable def m_name_end_3t1 : MS := (sRet (xV 3))
noncomputable def b_name_end_3t : MS := m_name_end_3t1
noncomputable def t_name_end_3 : M Bool := (xOr (xTst (x2 (oInS1 false) (x2 oIx (xV 0) (xV 2)) (xC (.str "abcdefghijklmnopqrstuvwxyz")))) (xOr (xTst (x2 oNeA (xSl oSl (xV 0) (pS (xV 3)) (pS (x2 oAdd (xV 3) (xC (.int 1))))) (xC (.str ".")))) (xTst (x2 (oInS1 true) (xSl oSl (xV 0) (pS (x2 oAdd (xV 3) (xC (.int 1)))) (pS (x2 oAdd (xV 3) (xC (.int 2))))) (x2 oAdd (xC (.str "abcdefghijklmnopqrstuvwxyz")) (xC (.str "ABCDEFGHIJKLMNOPQRSTUVWXYZ")))))))
noncomputable def m_name_end_4t1 : MS := (sRet (xV 3))
noncomputable def b_name_end_4t : MS := m_name_end_4t1
noncomputable def t_name_end_4 : M Bool := (xTst (x2 oEqA (xN fLen (aC (xV 0) aN)) (x2 oAdd (xV 3) (xC (.int 1)))))
noncomputable def m_name_end_6t1 : MS := (sRaise "NoText" ([("line" : Str), ("column" : Str)] : List Str) (aC (xV 1) (aC (x2 oAdd (xV 3) (xC (.int 1))) aN)))
noncomputable def b_name_end_6t : MS := m_name_end_6t1
noncomputable def t_name_end_6 : M Bool := (xOr (xTst (x2 oGt (x2 oSub (x2 oSub (xV 4) (xV 3)) (xC (.int 1))) (xC (.int (20))))) (xTst (x2 (oIn false) (xSl oSl (xV 0) (pS (x2 oAdd (xV 3) (xC (.int 1)))) (pS (xV 4))) (xC (.tup (([("module" : Str), ("use" : Str), ("give" : Str), ("kind" : Str), ("let" : Str), ("rec" : Str), ("and" : Str), ("in" : Str), ("fn" : Str), ("if" : Str), ("then" : Str), ("else" : Str), ("match" : Str), ("with" : Str), ("end" : Str), ("new" : Str), ("get" : Str), ("put" : Str), ("tell" : Str), ("true" : Str), ("false" : Str)] : List Str).map D.str))))))
noncomputable def m_name_end_1 : MS := (sAsg (xCl 3 G_run_end (aC (xV 0) (aC (xV 2) (aC (xC (.str "abcdefghijklmnopqrstuvwxyzABCDEFGHIJKLMNOPQRSTUVWXYZ0123456789_")) aN)))) (gN 3))
noncomputable def m_name_end_2 : MS := (sIf t_name_end_2 b_name_end_2t sNil)
noncomputable def m_name_end_3 : MS := (sIf t_name_end_3 b_name_end_3t sNil)
noncomputable def m_name_end_4 : MS := (sIf t_name_end_4 b_name_end_4t sNil)
noncomputable def m_name_end_5 : MS := (sAsg (xCl 3 G_run_end (aC (xV 0) (aC (x2 oAdd (xV 3) (xC (.int 1))) (aC (xC (.str "abcdefghijklmnopqrstuvwxyzABCDEFGHIJKLMNOPQRSTUVWXYZ0123456789_")) aN)))) (gN 4))
noncomputable def m_name_end_6 : MS := (sIf t_name_end_6 b_name_end_6t sNil)
noncomputable def m_name_end_7 : MS := (sRet (xV 4))
noncomputable def m_name_end : MS := (sSeq m_name_end_1 (sSeq m_name_end_2 (sSeq m_name_end_3 (sSeq m_name_end_4 (sSeq m_name_end_5 (sSeq m_name_end_6 m_name_end_7))))))
noncomputable def F_name_end : Fn := runX 5 m_name_end
noncomputable abbrev G_name_end : Fn := F_name_end
/-- 0 line 1 row 2 column 3 begin 4 end -/
noncomputable def m_digits_end_2t1 : MS := (sRaise "NoText" ([("line" : Str), ("column" : Str)] : List Str) (aC (xV 1) (aC (xV 3) aN)))
noncomputable def b_digits_end_2t : MS := m_digits_end_2t1
noncomputable def t_digits_end_2 : M Bool := (xOr (xTst (x2 oEqA (xV 4) (xV 2))) (xAnd (xTst (x2 oEqA (x2 oIx (xV 0) (xV 2)) (xC (.str "0")))) (xTst (x2 oGt (xV 4) (x2 oAdd (xV 2) (xC (.int 1)))))))
noncomputable def m_digits_end_1 : MS := (sAsg (xCl 3 G_run_end (aC (xV 0) (aC (xV 2) (aC (xC (.str "0123456789")) aN)))) (gN 4))
noncomputable def m_digits_end_2 : MS := (sIf t_digits_end_2 b_digits_end_2t sNil)
noncomputable def m_digits_end_3 : MS := (sRet (xV 4))
noncomputable def m_digits_end : MS := (sSeq m_digits_end_1 (sSeq m_digits_end_2 m_digits_end_3))
noncomputable def F_digits_end : Fn := runX 5 m_digits_end
noncomputable abbrev G_digits_end : Fn := F_digits_end
/-- 0 line 1 row 2 column 3 is_below 4 begin 5 end 6 size -/
noncomputable def m_number_end_4t1 : MS := (sRaise "NoText" ([("line" : Str), ("column" : Str)] : List Str) (aC (xV 1) (aC (xV 2) aN)))
noncomputable def b_number_end_4t : MS := m_number_end_4t1
noncomputable def t_number_end_4 : M Bool := (xOr (xTst (x2 oGt (x2 oSub (xV 5) (xV 4)) (x2 oAdd (xC (.int (9))) (xC (.int 1))))) (xAnd (xTru (xV 3)) (xTst (x2 oEqA (x2 oIx (xV 0) (xV 4)) (xC (.str "0"))))))
noncomputable def m_number_end_6t1 : MS := (sRaise "NoText" ([("line" : Str), ("column" : Str)] : List Str) (aC (xV 1) (aC (xV 2) aN)))
noncomputable def b_number_end_6t : MS := m_number_end_6t1
noncomputable def t_number_end_6 : M Bool := (xNot (xTru (xCl 1 G_is_number (aC (xIf (xTru (xV 3)) (x1 oNeg (xV 6)) (xV 6)) aN))))
noncomputable def m_number_end_1 : MS := (sAsg (x2 oEqA (x2 oIx (xV 0) (xV 2)) (xC (.str "~"))) (gN 3))
noncomputable def m_number_end_2 : MS := (sAsg (x2 oAdd (xV 2) (xN fIntS (aC (xV 3) aN))) (gN 4))
noncomputable def m_number_end_3 : MS := (sAsg (xClX 4 G_digits_end (aC (xV 0) (aC (xV 1) (aC (xV 4) (aC (xV 2) aN))))) (gN 5))
noncomputable def m_number_end_4 : MS := (sIf t_number_end_4 b_number_end_4t sNil)
noncomputable def m_number_end_5 : MS := (sAsg (xN fIntS (aC (xSl oSl (xV 0) (pS (xV 4)) (pS (xV 5))) aN)) (gN 6))
noncomputable def m_number_end_6 : MS := (sIf t_number_end_6 b_number_end_6t sNil)
noncomputable def m_number_end_7 : MS := (sRet (xV 5))
noncomputable def m_number_end : MS := (sSeq m_number_end_1 (sSeq m_number_end_2 (sSeq m_number_end_3 (sSeq m_number_end_4 (sSeq m_number_end_5 (sSeq m_number_end_6 m_number_end_7))))))
noncomputable def F_number_end : Fn := runX 7 m_number_end
noncomputable abbrev G_number_end : Fn := F_number_end
/-- 0 line 1 row 2 column 3 end -/
noncomputable def m_variable_end_2t1 : MS := (sRaise "NoText" ([("line" : Str), ("column" : Str)] : List Str) (aC (xV 1) (aC (xV 2) aN)))
noncomputable def b_variable_end_2t : MS := m_variable_end_2t1
noncomputable def t_variable_end_2 : M Bool := (xTst (x2 oGt (x2 oSub (x2 oSub (xV 3) (xV 2)) (xC (.int 1))) (xC (.int (9)))))
noncomputable def m_variable_end_1 : MS := (sAsg (xClX 4 G_digits_end (aC (xV 0) (aC (xV 1) (aC (x2 oAdd (xV 2) (xC (.int 1))) (aC (xV 2) aN))))) (gN 3))
noncomputable def m_variable_end_2 : MS := (sIf t_variable_end_2 b_variable_end_2t sNil)
noncomputable def m_variable_end_3 : MS := (sRet (xV 3))
noncomputable def m_variable_end : MS := (sSeq m_variable_end_1 (sSeq m_variable_end_2 m_variable_end_3))
noncomputable def F_variable_end : Fn := runX 4 m_variable_end
noncomputable abbrev G_variable_end : Fn := F_variable_end
/-- 0 line 1 row 2 column 3 sign -/
noncomputable def m_word_end_2t1 : MS := (sRet (xClX 3 G_name_end (aC (xV 0) (aC (xV 1) (aC (xV 2) aN)))))
noncomputable def b_word_end_2t : MS := m_word_end_2t1
noncomputable def t_word_end_2 : M Bool := (xTst (x2 (oInS1 false) (xV 3) (x2 oAdd (xC (.str "abcdefghijklmnopqrstuvwxyz")) (xC (.str "ABCDEFGHIJKLMNOPQRSTUVWXYZ")))))
noncomputable def m_word_end_3t1 : MS := (sRet (xClX 3 G_number_end (aC (xV 0) (aC (xV 1) (aC (xV 2) aN)))))
noncomputable def b_word_end_3t : MS := m_word_end_3t1
noncomputable def t_word_end_3 : M Bool := (xOr (xTst (x2 (oInS1 false) (xV 3) (xC (.str "0123456789")))) (xTst (x2 oEqA (xV 3) (xC (.str "~")))))
noncomputable def m_word_end_4t1 : MS := (sRet (xClX 3 G_variable_end (aC (xV 0) (aC (xV 1) (aC (xV 2) aN)))))
noncomputable def b_word_end_4t : MS := m_word_end_4t1
noncomputable def t_word_end_4 : M Bool := (xTst (x2 oEqA (xV 3) (xC (.str "?"))))
noncomputable def m_word_end_5t1 : MS := (sRet (xIf (xTst (x2 oEqA (xSl oSl (xV 0) (pS (x2 oAdd (xV 2) (xC (.int 1)))) (pS (x2 oAdd (xV 2) (xC (.int 2))))) (xC (.str ">")))) (x2 oAdd (xV 2) (xC (.int 2))) (x2 oAdd (xV 2) (xC (.int 1)))))
noncomputable def b_word_end_5t : MS := m_word_end_5t1
noncomputable def t_word_end_5 : M Bool := (xTst (x2 oEqA (xV 3) (xC (.str "-"))))
noncomputable def m_word_end_6t1 : MS := (sRaise "NoText" ([("line" : Str), ("column" : Str)] : List Str) (aC (xV 1) (aC (xV 2) aN)))
noncomputable def b_word_end_6t : MS := m_word_end_6t1
noncomputable def t_word_end_6 : M Bool := (xTst (x2 (oInS1 true) (xV 3) (xC (.str "=<+*(){},.|:_"))))
noncomputable def m_word_end_1 : MS := (sAsg (x2 oIx (xV 0) (xV 2)) (gN 3))
noncomputable def m_word_end_2 : MS := (sIf t_word_end_2 b_word_end_2t sNil)
noncomputable def m_word_end_3 : MS := (sIf t_word_end_3 b_word_end_3t sNil)
noncomputable def m_word_end_4 : MS := (sIf t_word_end_4 b_word_end_4t sNil)
noncomputable def m_word_end_5 : MS := (sIf t_word_end_5 b_word_end_5t sNil)
noncomputable def m_word_end_6 : MS := (sIf t_word_end_6 b_word_end_6t sNil)
noncomputable def m_word_end_7 : MS := (sRet (x2 oAdd (xV 2) (xC (.int 1))))
noncomputable def m_word_end : MS := (sSeq m_word_end_1 (sSeq m_word_end_2 (sSeq m_word_end_3 (sSeq m_word_end_4 (sSeq m_word_end_5 (sSeq m_word_end_6 m_word_end_7))))))
noncomputable def F_word_end : Fn := runX 4 m_word_end
noncomputable abbrev G_word_end : Fn := F_word_end
/-- 0 line 1 row 2 found 3 column 4 end -/
noncomputable def m_line_words_2b1t1 : MS := (sAug 3 (fIp (fun i j => i + j)) (xC (.int 1)))
noncomputable def b_line_words_2b1t : MS := m_line_words_2b1t1
noncomputable def m_line_words_2b1f1 : MS := (sAsg (xClX 3 G_word_end (aC (xV 0) (aC (xV 1) (aC (xV 3) aN)))) (gN 4))
noncomputable def m_line_words_2b1f2 : MS := (sEx (xMeth .lst mAppend (xV 2) (aC (xTup (aC (xSl oSl (xV 0) (pS (xV 3)) (pS (xV 4))) (aC (xV 1) (aC (xV 3) aN)))) aN)))
noncomputable def m_line_words_2b1f3 : MS := (sAsg (xV 4) (gN 3))
noncomputable def b_line_words_2b1f : MS := (sSeq m_line_words_2b1f1 (sSeq m_line_words_2b1f2 m_line_words_2b1f3))
noncomputable def t_line_words_2b1 : M Bool := (xTst (x2 oEqA (x2 oIx (xV 0) (xV 3)) (xC (.str " "))))
noncomputable def m_line_words_2b1 : MS := (sIf t_line_words_2b1 b_line_words_2b1t b_line_words_2b1f)
noncomputable def b_line_words_2b : MS := m_line_words_2b1
noncomputable def t_line_words_2 : M Bool := (xAnd (xTst (x2 oLt (xV 3) (xN fLen (aC (xV 0) aN)))) (xTst (x2 oNeA (x2 oIx (xV 0) (xV 3)) (xC (.str "#")))))
noncomputable def m_line_words_1 : MS := (sPar [2, 3] (aC (xNew (xLst aN)) (aC (xC (.int 0)) aN)))
noncomputable def m_line_words_2 : MS := (sWhile t_line_words_2 b_line_words_2b)
noncomputable def m_line_words_3 : MS := (sRet (xV 2))
noncomputable def m_line_words : MS := (sSeq m_line_words_1 (sSeq m_line_words_2 m_line_words_3))
noncomputable def F_line_words : Fn := runX 5 m_line_words
noncomputable abbrev G_line_words : Fn := F_line_words
/-- 0 text 1 found 2 row 3 line -/
noncomputable def m_words_of_1t1 : MS := (sRaise "Wrong" ([("place" : Str)] : List Str) (aC (xC (.int 0)) aN))
noncomputable def b_words_of_1t : MS := m_words_of_1t1
noncomputable def t_words_of_1 : M Bool := (xNot (xTru (xN (oIsiO ([("Nothing" : Str)] : List Str)) (aC (xV 0) (aC (xC (.cst (.ty "str"))) aN)))))
noncomputable def m_words_of_3b1 : MS := (sEx (xMeth .lst mExtend (xV 1) (aC (xClX 2 G_line_words (aC (xV 3) (aC (xV 2) aN))) aN)))
noncomputable def b_words_of_3b : MS := m_words_of_3b1
noncomputable def m_words_of_1 : MS := (sIf t_words_of_1 b_words_of_1t sNil)
noncomputable def m_words_of_2 : MS := (sAsg (xNew (xLst aN)) (gN 1))
noncomputable def m_words_of_3 : MS := (sFor (iOf enumI (aC (xVal (fMth oSplit (xV 0) (xC (.str "\n")))) aN)) (gT 2 (gsC (gN 2) (gsC (gN 3) gsN))) b_words_of_3b)
noncomputable def m_words_of_4 : MS := (sRet (xV 1))
noncomputable def m_words_of : MS := (sSeq m_words_of_1 (sSeq m_words_of_2 (sSeq m_words_of_3 m_words_of_4)))
noncomputable def F_words_of : Fn := runX 4 m_words_of
noncomputable abbrev G_words_of : Fn := F_words_of
/-- 0 script 1 cell -/
noncomputable def m_law_bag_1 : MS := (sRet (xNew (xLst (aC (xC (.int 0)) (aC (xC (.int 1234567891)) (aC (xC (.int 0)) (aC (xVal (xLc [1] (iSeq (xSl oSl (xV 0) pN (pS (xC (.int 63))))) (gN 1) xYes (xN fAbs (aC (xV 1) aN)))) aN)))))))
noncomputable def m_law_bag : MS := m_law_bag_1
noncomputable def F_law_bag : Fn0 := runF 2 m_law_bag
noncomputable abbrev G_law_bag : Fn0 := F_law_bag
/-- 0 bag 1 many 2 cell 3 stirred 4 value 5 begin 6 second -/
noncomputable def m_law_take_1t3t1 : MS := (sAsg (xV 2) (gIx (xV 0) (xC (.int 0))))
noncomputable def b_law_take_1t3t : MS := m_law_take_1t3t1
noncomputable def t_law_take_1t3 : M Bool := (xTst (x2 oGeA (xV 2) (x2 oPow (xC (.int 10)) (xC (.int 18)))))
noncomputable def m_law_take_1t1 : MS := (sAsg (x2 oIx (x2 oAdd (xSl oSl (x2 oIx (xV 0) (xC (.int 3))) (pS (x2 oIx (xV 0) (xC (.int 2)))) pN) (xVal (xLst (aC (xC (.int 0)) aN)))) (xC (.int 0))) (gN 2))
noncomputable def m_law_take_1t2 : MS := (sAugS (fIp (fun i j => i + j)) (xV 0) (xC (.int 2)) (xC (.int 1)))
noncomputable def m_law_take_1t3 : MS := (sIf t_law_take_1t3 b_law_take_1t3t sNil)
noncomputable def m_law_take_1t4 : MS := (sAsg (x2 oAdd (x2 oAdd (x2 oMul (x2 oIx (xV 0) (xC (.int 1))) (xC (.int 48271))) (x2 oMod (xN fIntS (aC (xV 2) aN)) (xC (.int 2147483647)))) (x2 oMul (xC (.int 7919)) (x2 oIx (xV 0) (xC (.int 2))))) (gN 3))
noncomputable def m_law_take_1t5 : MS := (sAsg (x2 oMod (xN fIntS (aC (xV 3) aN)) (xC (.int 2147483647))) (gIx (xV 0) (xC (.int 1))))
noncomputable def b_law_take_1t : MS := (sSeq m_law_take_1t1 (sSeq m_law_take_1t2 (sSeq m_law_take_1t3 (sSeq m_law_take_1t4 m_law_take_1t5))))
noncomputable def t_law_take_1 : M Bool := (xTst (x2 oEqA (x2 oIx (xV 0) (xC (.int 0))) (xC (.int 0))))
noncomputable def m_law_take_2t1 : MS := (sAsg (x2 oMod (xN fIntS (aC (x2 oIx (xV 0) (xC (.int 0))) aN)) (xV 1)) (gN 4))
noncomputable def m_law_take_2t2 : MS := (sAsg (x2 oFdiv (xN fIntS (aC (x2 oIx (xV 0) (xC (.int 0))) aN)) (xV 1)) (gIx (xV 0) (xC (.int 0))))
noncomputable def m_law_take_2t3 : MS := (sRet (xV 4))
noncomputable def b_law_take_2t : MS := (sSeq m_law_take_2t1 (sSeq m_law_take_2t2 m_law_take_2t3))
noncomputable def t_law_take_2 : M Bool := (xTst (x2 oGt (x2 oIx (xV 0) (xC (.int 0))) (xC (.int 0))))
noncomputable def m_law_take_1 : MS := (sIf t_law_take_1 b_law_take_1t sNil)
noncomputable def m_law_take_2 : MS := (sIf t_law_take_2 b_law_take_2t sNil)
noncomputable def m_law_take_3 : MS := (sAsg (x2 oMod (xN fIntS (aC (x2 oMul (x2 oAdd (x2 oIx (xV 0) (xC (.int 1))) (xC (.int 1))) (xC (.int 39373))) aN)) (xC (.int 1000000007))) (gN 5))
noncomputable def m_law_take_4 : MS := (sAsg (x2 oMod (xN fIntS (aC (x2 oMul (x2 oMod (xN fIntS (aC (x2 oMul (xV 5) (xV 5)) aN)) (xC (.int 998244353))) (xC (.int 30011))) aN)) (xC (.int 998244353))) (gN 6))
noncomputable def m_law_take_5 : MS := (sRet (x2 oMod (xN fIntS (aC (x2 oFdiv (xV 6) (xC (.int 7))) aN)) (xV 1)))
noncomputable def m_law_take : MS := (sSeq m_law_take_1 (sSeq m_law_take_2 (sSeq m_law_take_3 (sSeq m_law_take_4 m_law_take_5))))
noncomputable def F_law_take : Fn0 := runF 7 m_law_take
noncomputable abbrev G_law_take : Fn0 := F_law_take
/-- 0 bag 1 things -/
noncomputable def m_law_some_1 : MS := (sRet (x2 oIx (xV 1) (xCl 2 G_law_take (aC (xV 0) (aC (xN fLen (aC (xV 1) aN)) aN)))))
noncomputable def m_law_some : MS := m_law_some_1
noncomputable def F_law_some : Fn0 := runF 2 m_law_some
noncomputable abbrev G_law_some : Fn0 := F_law_some
/-- 0 found 1 due -/
noncomputable def m_law_alike_1 : MS := (sRet (xAndV (x2 oEqA (xV 0) (xV 1)) (x2 oEqA (xN fReprB (aC (xV 0) aN)) (xN fReprB (aC (xV 1) aN)))))
noncomputable def m_law_alike : MS := m_law_alike_1
noncomputable def F_law_alike : Fn0 := runF 2 m_law_alike
noncomputable abbrev G_law_alike : Fn0 := F_law_alike
/-- 0 found -/
noncomputable def m_law_barred_1 : MS := (sAsg (xVal (xLst (aC (xC (.str "module")) (aC (xC (.str "use")) (aC (xC (.str "give")) (aC (xC (.str "kind")) (aC (xC (.str "let")) (aC (xC (.str "rec")) (aC (xC (.str "and")) (aC (xC (.str "in")) (aC (xC (.str "fn")) (aC (xC (.str "if")) (aC (xC (.str "then")) (aC (xC (.str "else")) (aC (xC (.str "match")) (aC (xC (.str "with")) aN)))))))))))))))) (gN 0))
noncomputable def m_law_barred_2 : MS := (sRet (x2 oAdd (xV 0) (xVal (xLst (aC (xC (.str "end")) (aC (xC (.str "new")) (aC (xC (.str "get")) (aC (xC (.str "put")) (aC (xC (.str "tell")) (aC (xC (.str "true")) (aC (xC (.str "false")) aN)))))))))))
noncomputable def m_law_barred : MS := (sSeq m_law_barred_1 m_law_barred_2)
noncomputable def F_law_barred : Fn0 := runF 1 m_law_barred
noncomputable abbrev G_law_barred : Fn0 := F_law_barred
/--  -/
noncomputable def m_law_small_signs_1 : MS := (sRet (xC (.str "abcdefghijklmnopqrstuvwxyz")))
noncomputable def m_law_small_signs : MS := m_law_small_signs_1
noncomputable def F_law_small_signs : Fn0 := runF 0 m_law_small_signs
noncomputable abbrev G_law_small_signs : Fn0 := F_law_small_signs
/--  -/
noncomputable def m_law_great_signs_1 : MS := (sRet (xC (.str "ABCDEFGHIJKLMNOPQRSTUVWXYZ")))
noncomputable def m_law_great_signs : MS := m_law_great_signs_1
noncomputable def F_law_great_signs : Fn0 := runF 0 m_law_great_signs
noncomputable abbrev G_law_great_signs : Fn0 := F_law_great_signs
/--  -/
noncomputable def m_law_figures_1 : MS := (sRet (xC (.str "0123456789")))
noncomputable def m_law_figures : MS := m_law_figures_1
noncomputable def F_law_figures : Fn0 := runF 0 m_law_figures
noncomputable abbrev G_law_figures : Fn0 := F_law_figures
/-- 0 bag 1 some -/
noncomputable def m_law_odd_1 : MS := (sAsg (xVal (xLst (aC (xC .non) (aC (xC (.bl true)) (aC (xC (.bl false)) (aC (xC (.int 0)) (aC (xC (.int 1)) (aC (x1 oNeg (xC (.int 1))) (aC (x2 oPow (xC (.int 10)) (xC (.int 39))) (aC (xC (.str "")) (aC (xC (.str "x")) (aC (xC (.str "A")) (aC (xC (.str "let")) (aC (xC (.str "M.x")) (aC (xC (.str "x.y")) (aC (xC (.str "A.B")) (aC (xTup aN) (aC (xVal (xLst aN)) (aC (xVal fDct0) (aC (xTup (aC (xC (.int 0)) aN)) (aC (xVal (xLst (aC (xC (.int 0)) aN))) aN))))))))))))))))))))) (gN 1))
noncomputable def m_law_odd_2 : MS := (sAsg (x2 oAdd (xV 1) (xVal (xLst (aC (xTup (aC (xC (.str "num")) aN)) (aC (xTup (aC (xC (.str "num")) (aC (xC (.int 1)) aN))) (aC (xTup (aC (xC (.str "num")) (aC (xC (.bl true)) aN))) (aC (xTup (aC (xC (.str "num")) (aC (xC (.int 2147483648)) aN))) (aC (xTup (aC (xC (.str "any")) aN)) (aC (xVal (xLst (aC (xC (.str "any")) aN))) (aC (xTup (aC (xC (.str "var")) (aC (xC (.int 0)) aN))) (aC (xTup (aC (xC (.str "var")) (aC (x1 oNeg (xC (.int 1))) aN))) aN))))))))))) (gN 1))
noncomputable def m_law_odd_3 : MS := (sAsg (x2 oAdd (xV 1) (xVal (xLst (aC (xTup (aC (xC (.str "tuple")) (aC (xTup (aC (xTup (aC (xC (.str "num")) (aC (xC (.int 1)) aN))) aN)) aN))) (aC (xTup (aC (xC (.str "name")) (aC (xC (.str "Let")) aN))) (aC (xTup (aC (xC (.str "name")) (aC (xC (.str "end")) aN))) (aC (xTup (aC (xC (.str "bind")) (aC (xC (.str "M.x")) aN))) (aC (xTup (aC (xC (.str "make")) (aC (xC (.str "A")) (aC (xTup aN) aN)))) aN)))))))) (gN 1))
noncomputable def m_law_odd_4 : MS := (sAsg (x2 oAdd (xV 1) (xVal (xLst (aC (xTup (aC (xC (.str "record")) (aC (xTup aN) aN))) (aC (xTup (aC (xC (.str "truth")) (aC (xC (.int 1)) aN))) (aC (xTup (aC (xC (.str "of")) (aC (xC (.str "A")) (aC (xC .non) aN)))) (aC (xTup (aC (xC (.str "rec")) (aC (xTup aN) (aC (xTup (aC (xC (.str "num")) (aC (xC (.int 1)) aN))) aN)))) (aC (xTup (aC (xC (.str "op")) (aC (xC (.str "-")) (aC (xC (.int 0)) (aC (xC (.int 0)) aN))))) aN)))))))) (gN 1))
noncomputable def m_law_odd_5 : MS := (sRet (xCl 2 G_law_some (aC (xV 0) (aC (x2 oAdd (xV 1) (xVal (xLst (aC (xVal (xDisp [((xC (.int 0)), (xC (.int 1)))])) (aC (xTup (aC (xTup aN) aN)) aN))))) aN))))
noncomputable def m_law_odd : MS := (sSeq m_law_odd_1 (sSeq m_law_odd_2 (sSeq m_law_odd_3 (sSeq m_law_odd_4 m_law_odd_5))))
noncomputable def F_law_odd : Fn0 := runF 2 m_law_odd
noncomputable abbrev G_law_odd : Fn0 := F_law_odd
/-- 0 text 1 at 2 signs 3 end -/
noncomputable def m_law_run_from_2b1 : MS := (sAug 3 (fIp (fun i j => i + j)) (xC (.int 1)))
noncomputable def b_law_run_from_2b : MS := m_law_run_from_2b1
noncomputable def t_law_run_from_2 : M Bool := (xAnd (xTst (x2 oLt (xV 3) (xN fLen (aC (xV 0) aN)))) (xTst (x2 (oInS1 false) (x2 oIx (xV 0) (xV 3)) (xV 2))))
noncomputable def m_law_run_from_1 : MS := (sAsg (xV 1) (gN 3))
noncomputable def m_law_run_from_2 : MS := (sWhile t_law_run_from_2 b_law_run_from_2b)
noncomputable def m_law_run_from_3 : MS := (sRet (xSl oSl (xV 0) (pS (xV 1)) (pS (xV 3))))
noncomputable def m_law_run_from : MS := (sSeq m_law_run_from_1 (sSeq m_law_run_from_2 m_law_run_from_3))
noncomputable def F_law_run_from : Fn0 := runF 4 m_law_run_from
noncomputable abbrev G_law_run_from : Fn0 := F_law_run_from
/-- 0 text 1 at 2 letters 3 signs 4 word 5 end 6 other 7 head 8 figures 9 number -/
noncomputable def m_law_word_at_3t2t1 : MS := (sRet (xTup (aC (xC .non) (aC (xC (.int 0)) aN))))
noncomputable def b_law_word_at_3t2t : MS := m_law_word_at_3t2t1
noncomputable def t_law_word_at_3t2 : M Bool := (xTst (x2 oGt (xN fLen (aC (xV 4) aN)) (xC (.int 20))))
noncomputable def m_law_word_at_3t4t2t1 : MS := (sRet (xTup (aC (xC .non) (aC (x2 oAdd (xN fLen (aC (xV 4) aN)) (xC (.int 1))) aN))))
noncomputable def b_law_word_at_3t4t2t : MS := m_law_word_at_3t4t2t1
noncomputable def t_law_word_at_3t4t2 : M Bool := (xOr (xTst (x2 oGt (xN fLen (aC (xV 6) aN)) (xC (.int 20)))) (xTst (x2 (oIn false) (xV 6) (xCl 0 G_law_barred aN))))
noncomputable def m_law_word_at_3t4t1 : MS := (sAsg (xCl 3 G_law_run_from (aC (xV 0) (aC (x2 oAdd (xV 5) (xC (.int 1))) (aC (xV 3) aN)))) (gN 6))
noncomputable def m_law_word_at_3t4t2 : MS := (sIf t_law_word_at_3t4t2 b_law_word_at_3t4t2t sNil)
noncomputable def m_law_word_at_3t4t3 : MS := (sRet (xTup (aC (x2 oAdd (x2 oAdd (xV 4) (xC (.str "."))) (xV 6)) (aC (xC .non) aN))))
noncomputable def b_law_word_at_3t4t : MS := (sSeq m_law_word_at_3t4t1 (sSeq m_law_word_at_3t4t2 m_law_word_at_3t4t3))
noncomputable def t_law_word_at_3t4 : M Bool := (xAnd (xTst (x2 (oInS1 false) (x2 oIx (xV 0) (xV 1)) (xCl 0 G_law_great_signs aN))) (xAnd (xTst (x2 oEqA (xSl oSl (xV 0) (pS (xV 5)) (pS (x2 oAdd (xV 5) (xC (.int 1))))) (xC (.str ".")))) (xTst (x2 (oIn false) (xSl oSl (xV 0) (pS (x2 oAdd (xV 5) (xC (.int 1)))) (pS (x2 oAdd (xV 5) (xC (.int 2))))) (xN fTupleS (aC (xV 2) aN))))))
noncomputable def m_law_word_at_3t1 : MS := (sAsg (xCl 3 G_law_run_from (aC (xV 0) (aC (xV 1) (aC (xV 3) aN)))) (gN 4))
noncomputable def m_law_word_at_3t2 : MS := (sIf t_law_word_at_3t2 b_law_word_at_3t2t sNil)
noncomputable def m_law_word_at_3t3 : MS := (sAsg (x2 oAdd (xV 1) (xN fLen (aC (xV 4) aN))) (gN 5))
noncomputable def m_law_word_at_3t4 : MS := (sIf t_law_word_at_3t4 b_law_word_at_3t4t sNil)
noncomputable def m_law_word_at_3t5 : MS := (sRet (xTup (aC (xV 4) (aC (xC .non) aN))))
noncomputable def b_law_word_at_3t : MS := (sSeq m_law_word_at_3t1 (sSeq m_law_word_at_3t2 (sSeq m_law_word_at_3t3 (sSeq m_law_word_at_3t4 m_law_word_at_3t5))))
noncomputable def t_law_word_at_3 : M Bool := (xTst (x2 (oInS1 false) (x2 oIx (xV 0) (xV 1)) (xV 2)))
noncomputable def m_law_word_at_4t3t1 : MS := (sRet (xTup (aC (xC .non) (aC (xC (.int 0)) aN))))
noncomputable def b_law_word_at_4t3t : MS := m_law_word_at_4t3t1
noncomputable def t_law_word_at_4t3 : M Bool := (xOr (xTst (x2 oEqA (xV 8) (xC (.str "")))) (xOr (xAnd (xTst (x2 oGt (xN fLen (aC (xV 8) aN)) (xC (.int 1)))) (xTst (x2 oEqA (x2 oIx (xV 8) (xC (.int 0))) (xC (.str "0"))))) (xAnd (xTst (x2 oEqA (xV 7) (xC (.str "~")))) (xTst (x2 oEqA (xV 8) (xC (.str "0")))))))
noncomputable def m_law_word_at_4t4t1 : MS := (sRet (xIf (xTst (x2 oGt (xN fLen (aC (xV 8) aN)) (xC (.int 9)))) (xTup (aC (xC .non) (aC (xC (.int 0)) aN))) (xTup (aC (x2 oAdd (xC (.str "?")) (xV 8)) (aC (xC .non) aN)))))
noncomputable def b_law_word_at_4t4t : MS := m_law_word_at_4t4t1
noncomputable def t_law_word_at_4t4 : M Bool := (xTst (x2 oEqA (xV 7) (xC (.str "?"))))
noncomputable def m_law_word_at_4t1 : MS := (sAsg (xIf (xTst (x2 (oInS1 false) (x2 oIx (xV 0) (xV 1)) (xC (.str "~?")))) (x2 oIx (xV 0) (xV 1)) (xC (.str ""))) (gN 7))
noncomputable def m_law_word_at_4t2 : MS := (sAsg (xCl 3 G_law_run_from (aC (xV 0) (aC (x2 oAdd (xV 1) (xN fLen (aC (xV 7) aN))) (aC (xCl 0 G_law_figures aN) aN)))) (gN 8))
noncomputable def m_law_word_at_4t3 : MS := (sIf t_law_word_at_4t3 b_law_word_at_4t3t sNil)
noncomputable def m_law_word_at_4t4 : MS := (sIf t_law_word_at_4t4 b_law_word_at_4t4t sNil)
noncomputable def m_law_word_at_4t5 : MS := (sAsg (xIf (xTst (x2 oLt (xN fLen (aC (xV 8) aN)) (xC (.int 12)))) (xN fIntS (aC (xV 8) aN)) (x2 oPow (xC (.int 10)) (xC (.int 12)))) (gN 9))
noncomputable def m_law_word_at_4t6 : MS := (sRet (xIf (xTst (x2 oLeA (xV 9) (x2 oAdd (xC (.int 2147483647)) (xN fIntS (aC (x2 oEqA (xV 7) (xC (.str "~"))) aN))))) (xTup (aC (x2 oAdd (xV 7) (xV 8)) (aC (xC .non) aN))) (xTup (aC (xC .non) (aC (xC (.int 0)) aN)))))
noncomputable def b_law_word_at_4t : MS := (sSeq m_law_word_at_4t1 (sSeq m_law_word_at_4t2 (sSeq m_law_word_at_4t3 (sSeq m_law_word_at_4t4 (sSeq m_law_word_at_4t5 m_law_word_at_4t6)))))
noncomputable def t_law_word_at_4 : M Bool := (xOr (xTst (x2 (oInS1 false) (x2 oIx (xV 0) (xV 1)) (xC (.str "~?")))) (xTst (x2 (oInS1 false) (x2 oIx (xV 0) (xV 1)) (xCl 0 G_law_figures aN))))
noncomputable def m_law_word_at_5t1 : MS := (sRet (xTup (aC (xC (.str "->")) (aC (xC .non) aN))))
noncomputable def b_law_word_at_5t : MS := m_law_word_at_5t1
noncomputable def t_law_word_at_5 : M Bool := (xTst (x2 oEqA (xSl oSl (xV 0) (pS (xV 1)) (pS (x2 oAdd (xV 1) (xC (.int 2))))) (xC (.str "->"))))
noncomputable def m_law_word_at_1 : MS := (sAsg (x2 oAdd (xCl 0 G_law_small_signs aN) (xCl 0 G_law_great_signs aN)) (gN 2))
noncomputable def m_law_word_at_2 : MS := (sAsg (x2 oAdd (x2 oAdd (xV 2) (xCl 0 G_law_figures aN)) (xC (.str "_"))) (gN 3))
noncomputable def m_law_word_at_3 : MS := (sIf t_law_word_at_3 b_law_word_at_3t sNil)
noncomputable def m_law_word_at_4 : MS := (sIf t_law_word_at_4 b_law_word_at_4t sNil)
noncomputable def m_law_word_at_5 : MS := (sIf t_law_word_at_5 b_law_word_at_5t sNil)
noncomputable def m_law_word_at_6 : MS := (sRet (xIf (xTst (x2 (oInS1 false) (x2 oIx (xV 0) (xV 1)) (xC (.str "-=<+*(){},.|:_")))) (xTup (aC (x2 oIx (xV 0) (xV 1)) (aC (xC .non) aN))) (xTup (aC (xC .non) (aC (xC (.int 0)) aN)))))
noncomputable def m_law_word_at : MS := (sSeq m_law_word_at_1 (sSeq m_law_word_at_2 (sSeq m_law_word_at_3 (sSeq m_law_word_at_4 (sSeq m_law_word_at_5 m_law_word_at_6)))))
noncomputable def F_law_word_at : Fn0 := runF 10 m_law_word_at
noncomputable abbrev G_law_word_at : Fn0 := F_law_word_at
/-- 0 text 1 found 2 line 3 column 4 at 5 sign 6 word 7 wrong -/
noncomputable def m_law_scanned_2b2t1 : MS := (sPar [2, 3, 4] (aC (x2 oAdd (xV 2) (xC (.int 1))) (aC (xC (.int 0)) (aC (x2 oAdd (xV 4) (xC (.int 1))) aN))))
noncomputable def m_law_scanned_2b2t2 : MS := sCont
noncomputable def b_law_scanned_2b2t : MS := (sSeq m_law_scanned_2b2t1 m_law_scanned_2b2t2)
noncomputable def t_law_scanned_2b2 : M Bool := (xTst (x2 oEqA (xV 5) (xC (.str "\n"))))
noncomputable def m_law_scanned_2b3t1b1 : MS := (sPar [4, 3] (aC (x2 oAdd (xV 4) (xC (.int 1))) (aC (x2 oAdd (xV 3) (xC (.int 1))) aN)))
noncomputable def b_law_scanned_2b3t1b : MS := m_law_scanned_2b3t1b1
noncomputable def t_law_scanned_2b3t1 : M Bool := (xAnd (xTst (x2 oLt (xV 4) (xN fLen (aC (xV 0) aN)))) (xTst (x2 oNeA (x2 oIx (xV 0) (xV 4)) (xC (.str "\n")))))
noncomputable def m_law_scanned_2b3t1 : MS := (sWhile t_law_scanned_2b3t1 b_law_scanned_2b3t1b)
noncomputable def m_law_scanned_2b3t2 : MS := sCont
noncomputable def b_law_scanned_2b3t : MS := (sSeq m_law_scanned_2b3t1 m_law_scanned_2b3t2)
noncomputable def t_law_scanned_2b3 : M Bool := (xTst (x2 oEqA (xV 5) (xC (.str "#"))))
noncomputable def m_law_scanned_2b4t1 : MS := (sPar [4, 3] (aC (x2 oAdd (xV 4) (xC (.int 1))) (aC (x2 oAdd (xV 3) (xC (.int 1))) aN)))
noncomputable def m_law_scanned_2b4t2 : MS := sCont
noncomputable def b_law_scanned_2b4t : MS := (sSeq m_law_scanned_2b4t1 m_law_scanned_2b4t2)
noncomputable def t_law_scanned_2b4 : M Bool := (xTst (x2 oEqA (xV 5) (xC (.str " "))))
noncomputable def m_law_scanned_2b6t1 : MS := (sRet (xTup (aC (xC (.str "text")) (aC (xV 2) (aC (x2 oAdd (xV 3) (xV 7)) aN)))))
noncomputable def b_law_scanned_2b6t : MS := m_law_scanned_2b6t1
noncomputable def t_law_scanned_2b6 : M Bool := (xTst (x2 oIsNot (xV 7) (xC .non)))
noncomputable def m_law_scanned_2b1 : MS := (sAsg (x2 oIx (xV 0) (xV 4)) (gN 5))
noncomputable def m_law_scanned_2b2 : MS := (sIf t_law_scanned_2b2 b_law_scanned_2b2t sNil)
noncomputable def m_law_scanned_2b3 : MS := (sIf t_law_scanned_2b3 b_law_scanned_2b3t sNil)
noncomputable def m_law_scanned_2b4 : MS := (sIf t_law_scanned_2b4 b_law_scanned_2b4t sNil)
noncomputable def m_law_scanned_2b5 : MS := (sAsg (xCl 2 G_law_word_at (aC (xV 0) (aC (xV 4) aN))) (gT 2 (gsC (gN 6) (gsC (gN 7) gsN))))
noncomputable def m_law_scanned_2b6 : MS := (sIf t_law_scanned_2b6 b_law_scanned_2b6t sNil)
noncomputable def m_law_scanned_2b7 : MS := (sEx (xMeth .lst mAppend (xV 1) (aC (xTup (aC (xV 6) (aC (xV 2) (aC (xV 3) aN)))) aN)))
noncomputable def m_law_scanned_2b8 : MS := (sPar [4, 3] (aC (x2 oAdd (xV 4) (xN fLen (aC (xV 6) aN))) (aC (x2 oAdd (xV 3) (xN fLen (aC (xV 6) aN))) aN)))
noncomputable def b_law_scanned_2b : MS := (sSeq m_law_scanned_2b1 (sSeq m_law_scanned_2b2 (sSeq m_law_scanned_2b3 (sSeq m_law_scanned_2b4 (sSeq m_law_scanned_2b5 (sSeq m_law_scanned_2b6 (sSeq m_law_scanned_2b7 m_law_scanned_2b8)))))))
noncomputable def t_law_scanned_2 : M Bool := (xTst (x2 oLt (xV 4) (xN fLen (aC (xV 0) aN))))
noncomputable def m_law_scanned_1 : MS := (sAsg (xTup (aC (xNew (xLst aN)) (aC (xC (.int 0)) (aC (xC (.int 0)) (aC (xC (.int 0)) aN))))) (gT 4 (gsC (gN 1) (gsC (gN 2) (gsC (gN 3) (gsC (gN 4) gsN))))))
noncomputable def m_law_scanned_2 : MS := (sWhile t_law_scanned_2 b_law_scanned_2b)
noncomputable def m_law_scanned_3 : MS := (sRet (xTup (aC (xC (.str "told")) (aC (xV 1) aN))))
noncomputable def m_law_scanned : MS := (sSeq m_law_scanned_1 (sSeq m_law_scanned_2 m_law_scanned_3))
noncomputable def F_law_scanned : Fn0 := runF 8 m_law_scanned
noncomputable abbrev G_law_scanned : Fn0 := F_law_scanned
/-- 0 text 1 e -/
def xt_law_heard : XTb := [("NoText", ([("line" : Str), ("column" : Str)] : List Str), [true, false, true]), ("Wrong", ([("place" : Str)] : List Str), [false, true, true])]
noncomputable def m_law_heard_1y1 : MS := (sRet (xTup (aC (xC (.str "told")) (aC (xClX 1 G_words_of (aC (xV 0) aN)) aN))))
noncomputable def b_law_heard_1y : MS := m_law_heard_1y1
noncomputable def m_law_heard_1 : MS := (sTry xt_law_heard b_law_heard_1y [(some 1, fun x => (xTup (aC (xC (.str "text")) (aC (xFld "line" x) (aC (xFld "column" x) aN))))), (some 1, fun x => (xTup (aC (xC (.str "wrong")) (aC (xFld "place" x) aN)))), (none, fun x => (xTup (aC (xC (.str "other")) aN)))])
noncomputable def m_law_heard : MS := m_law_heard_1
noncomputable def F_law_heard : Fn0 := runF 2 m_law_heard
noncomputable abbrev G_law_heard : Fn0 := F_law_heard
/-- 0 bag 1 some 2 odd 3 turn -/
noncomputable def m_law_near_word_1 : MS := (sAsg (xVal (xLst (aC (xC (.str "x")) (aC (xC (.str "List")) (aC (xC (.str "List.map")) (aC (xC (.str "M.Cons")) (aC (xC (.str "let")) (aC (xC (.str "give")) (aC (xC (.str "->")) (aC (xC (.str "-")) (aC (xC (.str "=")) (aC (xC (.str "<")) (aC (xC (.str "+")) (aC (xC (.str "*")) (aC (xC (.str "(")) (aC (xC (.str ")")) (aC (xC (.str "{")) (aC (xC (.str "}")) (aC (xC (.str ",")) aN))))))))))))))))))) (gN 1))
noncomputable def m_law_near_word_2 : MS := (sAsg (x2 oAdd (xV 1) (xVal (xLst (aC (xC (.str ".")) (aC (xC (.str "|")) (aC (xC (.str ":")) (aC (xC (.str "_")) (aC (xC (.str "5")) (aC (xC (.str "~7")) (aC (xC (.str "0")) (aC (xC (.str "2147483647")) (aC (xC (.str "~2147483648")) (aC (xC (.str "?0")) (aC (xC (.str "?123456789")) (aC (xC (.str "A.B.c")) (aC (xC (.str "x.y")) aN)))))))))))))))) (gN 1))
noncomputable def m_law_near_word_3 : MS := (sAsg (xNew (xLst (aC (xC (.str "~0")) (aC (xC (.str "05")) (aC (xC (.str "2147483648")) (aC (xC (.str "~2147483649")) (aC (xC (.str "?01")) (aC (xC (.str "?")) (aC (xC (.str "~")) (aC (xC (.str "?1234567890")) (aC (x2 oMulS (xC (.str "a")) (xC (.int 20))) (aC (x2 oMulS (xC (.str "a")) (xC (.int 21))) (aC (x2 oAdd (x2 oMulS (xC (.str "A")) (xC (.int 21))) (xC (.str ".x"))) aN))))))))))))) (gN 2))
noncomputable def m_law_near_word_4 : MS := (sAsg (xNew (f2 pCat (xV 2) (xVal (xLst (aC (x2 oAdd (xC (.str "A.")) (x2 oMulS (xC (.str "b")) (xC (.int 21)))) (aC (xC (.str "A.get")) (aC (xC (.str "A.5")) (aC (xC (.str "A._)")) (aC (xC (.str "A.")) (aC (xC (.str ">")) (aC (xC (.str "/")) (aC (xC (.str "$")) (aC (xC (.str "!")) (aC (xC (.str "[")) (aC (xC (.str "'")) (aC (xC (.str "~~1")) aN)))))))))))))))) (gN 2))
noncomputable def m_law_near_word_5 : MS := (sEx (xMeth .lst mAppend (xV 2) (aC (x2 oAdd (x2 oAdd (x2 oMulS (xC (.str "x")) (xC (.int 20))) (xC (.str "."))) (x2 oMulS (xC (.str "y")) (xC (.int 20)))) aN)))
noncomputable def m_law_near_word_6 : MS := (sAsg (x2 oAdd (xV 1) (xVal (xLc [3] (iOf rng1 (aC (xC (.int 6)) aN)) (gN 3) xYes (x2 oAdd (xCl 2 G_law_some (aC (xV 0) (aC (xVal (xLst (aC (xC (.str "")) (aC (xC (.str "M.")) aN)))) aN))) (xCl 2 G_law_some (aC (xV 0) (aC (xCl 0 G_law_barred aN) aN))))))) (gN 1))
noncomputable def m_law_near_word_7 : MS := (sRet (xCl 2 G_law_some (aC (xV 0) (aC (xIf (xTst (x2 oEqA (xCl 2 G_law_take (aC (xV 0) (aC (xC (.int 6)) aN))) (xC (.int 0)))) (xV 2) (xV 1)) aN))))
noncomputable def m_law_near_word : MS := (sSeq m_law_near_word_1 (sSeq m_law_near_word_2 (sSeq m_law_near_word_3 (sSeq m_law_near_word_4 (sSeq m_law_near_word_5 (sSeq m_law_near_word_6 m_law_near_word_7))))))
noncomputable def F_law_near_word : Fn0 := runF 4 m_law_near_word
noncomputable abbrev G_law_near_word : Fn0 := F_law_near_word
/-- 0 script 1 bag 2 turn 3 text 4 k 5 due 6 again 7 gap 8 heard 9 odd -/
noncomputable def m_law_2b2b1 : MS := (sAsg (xCl 2 G_law_some (aC (xV 1) (aC (xVal (xLst (aC (xC (.str "")) (aC (xC (.str "")) (aC (xC (.str " ")) (aC (xC (.str "  ")) (aC (xC (.str "\n")) (aC (xC (.str " # a ( \n")) (aC (xC (.str "\n\n  ")) (aC (xC (.str "#\n")) aN)))))))))) aN))) (gN 7))
noncomputable def m_law_2b2b2 : MS := (sAsg (x2 oAdd (x2 oAdd (xV 3) (xCl 1 G_law_near_word (aC (xV 1) aN))) (xV 7)) (gN 3))
noncomputable def b_law_2b2b : MS := (sSeq m_law_2b2b1 m_law_2b2b2)
noncomputable def m_law_2b5b2t1 : MS := (sRet (xC (.bl false)))
noncomputable def b_law_2b5b2t : MS := m_law_2b5b2t1
noncomputable def t_law_2b5b2 : M Bool := (xNot (xTru (xCl 2 G_law_alike (aC (xV 8) (aC (xV 5) aN)))))
noncomputable def m_law_2b5b3t1 : MS := (sEx (xMeth .lst mAppend (x2 oIx (xV 8) (xC (.int 1))) (aC (xC .non) aN)))
noncomputable def m_law_2b5b3t2 : MS := (sAsg (xCl 1 G_law_scanned (aC (xV 3) aN)) (gN 5))
noncomputable def b_law_2b5b3t : MS := (sSeq m_law_2b5b3t1 m_law_2b5b3t2)
noncomputable def t_law_2b5b3 : M Bool := (xTst (x2 oEqA (x2 oIx (xV 8) (xC (.int 0))) (xC (.str "told"))))
noncomputable def m_law_2b5b1 : MS := (sAsg (xCl 1 G_law_heard (aC (xV 3) aN)) (gN 8))
noncomputable def m_law_2b5b2 : MS := (sIf t_law_2b5b2 b_law_2b5b2t sNil)
noncomputable def m_law_2b5b3 : MS := (sIf t_law_2b5b3 b_law_2b5b3t sNil)
noncomputable def b_law_2b5b : MS := (sSeq m_law_2b5b1 (sSeq m_law_2b5b2 m_law_2b5b3))
noncomputable def m_law_2b1 : MS := (sAsg (xCl 2 G_law_some (aC (xV 1) (aC (xVal (xLst (aC (xC (.str "")) (aC (xC (.str "")) (aC (xC (.str " ")) (aC (xC (.str "# x\n")) aN)))))) aN))) (gN 3))
noncomputable def m_law_2b2 : MS := (sFor (iOf rng1 (aC (xCl 2 G_law_some (aC (xV 1) (aC (xVal (xLst (aC (xC (.int 0)) (aC (xC (.int 3)) (aC (xC (.int 6)) (aC (xC (.int 10)) aN)))))) aN))) aN)) (gN 4) b_law_2b2b)
noncomputable def m_law_2b3 : MS := (sAsg (x2 oAdd (xV 3) (xCl 2 G_law_some (aC (xV 1) (aC (xVal (xLst (aC (xC (.str "")) (aC (xC (.str "#")) (aC (xC (.str " # ~0 $")) (aC (xC (.str "\n")) aN)))))) aN)))) (gN 3))
noncomputable def m_law_2b4 : MS := (sAsg (xCl 1 G_law_scanned (aC (xV 3) aN)) (gN 5))
noncomputable def m_law_2b5 : MS := (sFor (iOf rng1 (aC (xC (.int 2)) aN)) (gN 6) b_law_2b5b)
noncomputable def b_law_2b : MS := (sSeq m_law_2b1 (sSeq m_law_2b2 (sSeq m_law_2b3 (sSeq m_law_2b4 m_law_2b5))))
noncomputable def m_law_1 : MS := (sAsg (xCl 1 G_law_bag (aC (xV 0) aN)) (gN 1))
noncomputable def m_law_2 : MS := (sFor (iOf rng1 (aC (xC (.int 8)) aN)) (gN 2) b_law_2b)
noncomputable def m_law_3 : MS := (sAsg (xCl 2 G_law_some (aC (xV 1) (aC (xVal (xLst (aC (xCl 1 G_law_odd (aC (xV 1) aN)) (aC (xCl 1 G_law_odd (aC (xV 1) aN)) (aC (xOth "Nothing") aN))))) aN))) (gN 9))
noncomputable def m_law_4 : MS := (sRet (xOrV (xN (oIsiO ([("Nothing" : Str)] : List Str)) (aC (xV 9) (aC (xC (.cst (.ty "str"))) aN))) (xCl 2 G_law_alike (aC (xCl 1 G_law_heard (aC (xV 9) aN)) (aC (xTup (aC (xC (.str "wrong")) (aC (xC (.int 0)) aN))) aN)))))
noncomputable def m_law : MS := (sSeq m_law_1 (sSeq m_law_2 (sSeq m_law_3 m_law_4)))
noncomputable def F_law : Fn0 := runF 10 m_law
noncomputable abbrev G_law : Fn0 := F_law

end K06
end FW

set_option maxHeartbeats 4000000
namespace FW
namespace K06
open PySem PySem.Spec L2
def top (i : Nat) : Stmt := PySem.Challenge.pw_swornapart_k06_words_of_texts.main.body.getD i (.Pass ⟨0, 0, 0, 0⟩)
section
variable {P : Program} {w : World} {K : PySem.W.Frag} {mg : Str → Option Value} {base : Heap} {f : Addr} {fd : FuncData}
abbrev s_is_integer : Stmt := top 13
theorem sc_is_integer : FnScope ["thing"] ["thing"] (defScope s_is_integer) := ⟨rfl, rfl, rfl, by decide +kernel, rfl, by decide +kernel, by decide +kernel⟩
theorem ok_is_integer (D : FnP K "is_integer" s_is_integer f fd) (g_isinstance : mg "isinstance" = none) (g_bool : mg "bool" = none) (g_int : mg "int" = none) : FnG P w K mg base CX0 (1) f fd ["thing"] (spF K 1 (F_is_integer)) := by
  have scN := (sc_is_integer).nd
  have h1 : Fun K "is_integer" "is_integer" s_is_integer f fd := fun_of D
  have h2 := fun hb => fn_ok (P := P) (w := w) (mg := mg) (base := base) (m := m_is_integer) (k := 0) h1 sc_is_integer hb
  have h3 : spF K 1 (F_is_integer) = spF K 1 (runF 1 (m_is_integer)) := rfl
  rw [h3]
  refine h2 ?_
  intro cdv A outer s H E hr hgu
  exact (s_one (s_ret (e_and (e_bf call_isi oIsi_ok rfl g_isinstance PyProof.Rows.boot_isinstance (a_cons (e_var 0) (a_cons (e_tyN rfl g_int PySem.Pv.boot_int) a_nil))) (e_one (e_not (e_bf call_isi oIsi_ok rfl g_isinstance PyProof.Rows.boot_isinstance (a_cons (e_var 0) (a_cons (e_tyN rfl g_bool PySem.Pv.boot_bool) a_nil))))))))
abbrev s_is_number : Stmt := top 14
theorem sc_is_number : FnScope ["thing"] ["thing"] (defScope s_is_number) := ⟨rfl, rfl, rfl, by decide +kernel, rfl, by decide +kernel, by decide +kernel⟩
theorem ok_is_number (D : FnP K "is_number" s_is_number f fd) (c_is_integer : ClG P w K mg base 1 "is_integer" 1 G_is_integer) (i_LOWEST : ∃ t, mg "LOWEST" = some (.int (-2147483648) t)) (i_HIGHEST : ∃ t, mg "HIGHEST" = some (.int (2147483647) t)) : FnG P w K mg base CX0 (2) f fd ["thing"] (spF K 1 (F_is_number)) := by
  have scN := (sc_is_number).nd
  have h1 : Fun K "is_number" "is_number" s_is_number f fd := fun_of D
  have h2 := fun hb => fn_ok (P := P) (w := w) (mg := mg) (base := base) (m := m_is_number) (k := 1) h1 sc_is_number hb
  have h3 : spF K 1 (F_is_number) = spF K 1 (runF 1 (m_is_number)) := rfl
  rw [h3]
  refine h2 ?_
  intro cdv A outer s H E hr hgu
  exact (s_one (s_ret (e_and (e_call c_is_integer hr hgu (by omega) rfl (a_cons (e_var 0) a_nil)) (e_one (e_chn op_leAll oCmp_ok op_leAll oCmp_ok (e_intG i_LOWEST rfl) (e_var 0) (e_intG i_HIGHEST rfl))))))
abbrev s_run_end : Stmt := top 19
theorem sc_run_end : FnScope ["line", "column", "signs"] ["line", "column", "signs"] (defScope s_run_end) := ⟨rfl, rfl, rfl, by decide +kernel, rfl, by decide +kernel, by decide +kernel⟩
theorem ok_run_end (D : FnP K "run_end" s_run_end f fd) (g_len : mg "len" = none) : FnG P w K mg base CX0 (1) f fd ["line", "column", "signs"] (spF K 3 (F_run_end)) := by
  have scN := (sc_run_end).nd
  have h1 : Fun K "run_end" "run_end" s_run_end f fd := fun_of D
  have h2 := fun hb => fn_ok (P := P) (w := w) (mg := mg) (base := base) (m := m_run_end) (k := 0) h1 sc_run_end hb
  have h3 : spF K 3 (F_run_end) = spF K 3 (runF 3 (m_run_end)) := rfl
  rw [h3]
  refine h2 ?_
  intro cdv A outer s H E hr hgu
  exact (s_cons (s_while PassesOwn.never (T.pt (tw_and (t_cmp op_ltAll oCmp_ok (e_var 1) (e_bf cr_lenAll fLen_ok rfl g_len PySem.boot_len (a_cons (e_var 0) a_nil))) (tw_and1 (t_cmp op_inS1 oInS1_ok (e_sub (e_var 0) (e_var 1)) (e_var 2))))) (s_one (s_aug 1 scN ip_add fIp_ok e_int)))
    (s_one (s_ret (e_var 1))))
abbrev s_name_end : Stmt := top 20
theorem sc_name_end : FnScope ["line", "row", "column", "end", "behind"] ["line", "row", "column"] (defScope s_name_end) := ⟨rfl, rfl, rfl, by decide +kernel, rfl, by decide +kernel, by decide +kernel⟩
theorem ok_name_end (D : FnP K "name_end" s_name_end f fd) (c_run_end : ClG P w K mg base 1 "run_end" 3 G_run_end) (k_BARRED : KtT K mg "BARRED" ([("module" : Str), ("use" : Str), ("give" : Str), ("kind" : Str), ("let" : Str), ("rec" : Str), ("and" : Str), ("in" : Str), ("fn" : Str), ("if" : Str), ("then" : Str), ("else" : Str), ("match" : Str), ("with" : Str), ("end" : Str), ("new" : Str), ("get" : Str), ("put" : Str), ("tell" : Str), ("true" : Str), ("false" : Str)] : List Str)) (i_LENGTH : ∃ t, mg "LENGTH" = some (.int (20) t)) (s_BEHIND : ∃ t, mg "BEHIND" = some (.str "abcdefghijklmnopqrstuvwxyzABCDEFGHIJKLMNOPQRSTUVWXYZ0123456789_" t)) (s_SMALL : ∃ t, mg "SMALL" = some (.str "abcdefghijklmnopqrstuvwxyz" t)) (s_GREAT : ∃ t, mg "GREAT" = some (.str "ABCDEFGHIJKLMNOPQRSTUVWXYZ" t)) (g_len : mg "len" = none) (r_NoText : RaG P w K mg base "NoText" ([("line" : Str), ("column" : Str)] : List Str)) : FnG P w K mg base (L2.CX P w) (3) f fd ["line", "row", "column"] (spX K mg 3 (F_name_end)) := by
  have scN := (sc_name_end).nd
  have h1 : Fun K "name_end" "name_end" s_name_end f fd := fun_of D
  have h2 := fun hb => fn_okX (P := P) (w := w) (mg := mg) (base := base) (m := m_name_end) (k := 2) h1 sc_name_end hb
  have h3 : spX K mg 3 (F_name_end) = spX K mg 3 (runX 5 (m_name_end)) := rfl
  rw [h3]
  refine h2 ?_
  intro cdv A outer s H E hr hgu
  exact (s_cons (s_asg (sl := [3]) (e_call c_run_end hr hgu (by omega) rfl (a_cons (e_var 0) (a_cons (e_var 2) (a_cons (e_strG s_BEHIND rfl) a_nil)))) (g_name 3 scN))
    (s_cons (s_if (t_cmp op_gtAll oCmp_ok (e_op op_sub oSub_ok (e_var 3) (e_var 2)) (e_intG i_LENGTH rfl)) (s_one (s_raise rfl hx_def (rac r_NoText hr (by omega)) (by decide) rfl (a_cons (e_var 1) (a_cons (e_var 2) a_nil)))) s_nil)
    (s_cons (s_if (T.pt (tw_or (t_cmp op_inS1 oInS1_ok (e_sub (e_var 0) (e_var 2)) (e_strG s_SMALL rfl)) (tw_or (t_cmp (op_neAll (u64 hr)) oNeA_ok (e_slice (e_var 0) (p_some (e_var 3)) (p_some (e_op op_addAll oAdd_ok (e_var 3) e_int))) e_str) (tw_or1 (t_cmp op_ninS1 oNInS1_ok (e_slice (e_var 0) (p_some (e_op op_addAll oAdd_ok (e_var 3) e_int)) (p_some (e_op op_addAll oAdd_ok (e_var 3) e_int))) (e_op op_addAll oAdd_ok (e_strG s_SMALL rfl) (e_strG s_GREAT rfl))))))) (s_one (s_ret (e_var 3))) s_nil)
    (s_cons (s_if (t_cmp (op_eqAll (u64 hr)) oEqA_ok (e_bf cr_lenAll fLen_ok rfl g_len PySem.boot_len (a_cons (e_var 0) a_nil)) (e_op op_addAll oAdd_ok (e_var 3) e_int)) (s_one (s_ret (e_var 3))) s_nil)
    (s_cons (s_asg (sl := [4]) (e_call c_run_end hr hgu (by omega) rfl (a_cons (e_var 0) (a_cons (e_op op_addAll oAdd_ok (e_var 3) e_int) (a_cons (e_strG s_BEHIND rfl) a_nil)))) (g_name 4 scN))
    (s_cons (s_if (T.pt (tw_or (t_cmp op_gtAll oCmp_ok (e_op op_sub oSub_ok (e_op op_sub oSub_ok (e_var 4) (e_var 3)) e_int) (e_intG i_LENGTH rfl)) (tw_or1 (t_cmp op_inAll oIn_ok (e_slice (e_var 0) (p_some (e_op op_addAll oAdd_ok (e_var 3) e_int)) (p_some (e_var 4))) (e_tupG k_BARRED rfl))))) (s_one (s_raise rfl hx_def (rac r_NoText hr (by omega)) (by decide) rfl (a_cons (e_var 1) (a_cons (e_op op_addAll oAdd_ok (e_var 3) e_int) a_nil)))) s_nil)
    (s_one (s_ret (e_var 4)))))))))
abbrev s_digits_end : Stmt := top 21
theorem sc_digits_end : FnScope ["line", "row", "column", "begin", "end"] ["line", "row", "column", "begin"] (defScope s_digits_end) := ⟨rfl, rfl, rfl, by decide +kernel, rfl, by decide +kernel, by decide +kernel⟩
theorem ok_digits_end (D : FnP K "digits_end" s_digits_end f fd) (c_run_end : ClG P w K mg base 1 "run_end" 3 G_run_end) (s_DIGITS : ∃ t, mg "DIGITS" = some (.str "0123456789" t)) (r_NoText : RaG P w K mg base "NoText" ([("line" : Str), ("column" : Str)] : List Str)) : FnG P w K mg base (L2.CX P w) (3) f fd ["line", "row", "column", "begin"] (spX K mg 4 (F_digits_end)) := by
  have scN := (sc_digits_end).nd
  have h1 : Fun K "digits_end" "digits_end" s_digits_end f fd := fun_of D
  have h2 := fun hb => fn_okX (P := P) (w := w) (mg := mg) (base := base) (m := m_digits_end) (k := 2) h1 sc_digits_end hb
  have h3 : spX K mg 4 (F_digits_end) = spX K mg 4 (runX 5 (m_digits_end)) := rfl
  rw [h3]
  refine h2 ?_
  intro cdv A outer s H E hr hgu
  exact (s_cons (s_asg (sl := [4]) (e_call c_run_end hr hgu (by omega) rfl (a_cons (e_var 0) (a_cons (e_var 2) (a_cons (e_strG s_DIGITS rfl) a_nil)))) (g_name 4 scN))
    (s_cons (s_if (T.pt (tw_or (t_cmp (op_eqAll (u64 hr)) oEqA_ok (e_var 4) (e_var 2)) (tw_or1 (T.pt (tw_and (t_cmp (op_eqAll (u64 hr)) oEqA_ok (e_sub (e_var 0) (e_var 2)) e_str) (tw_and1 (t_cmp op_gtAll oCmp_ok (e_var 4) (e_op op_addAll oAdd_ok (e_var 2) e_int)))))))) (s_one (s_raise rfl hx_def (rac r_NoText hr (by omega)) (by decide) rfl (a_cons (e_var 1) (a_cons (e_var 3) a_nil)))) s_nil)
    (s_one (s_ret (e_var 4)))))
abbrev s_number_end : Stmt := top 22
theorem sc_number_end : FnScope ["line", "row", "column", "is_below", "begin", "end", "size"] ["line", "row", "column"] (defScope s_number_end) := ⟨rfl, rfl, rfl, by decide +kernel, rfl, by decide +kernel, by decide +kernel⟩
theorem ok_number_end (D : FnP K "number_end" s_number_end f fd) (c_digits_end : ClGX P w K mg base 3 "digits_end" 4 G_digits_end) (c_is_number : ClG P w K mg base 2 "is_number" 1 G_is_number) (i_MOST_DIGITS : ∃ t, mg "MOST_DIGITS" = some (.int (9) t)) (g_int : mg "int" = none) (r_NoText : RaG P w K mg base "NoText" ([("line" : Str), ("column" : Str)] : List Str)) : FnG P w K mg base (L2.CX P w) (4) f fd ["line", "row", "column"] (spX K mg 3 (F_number_end)) := by
  have scN := (sc_number_end).nd
  have h1 : Fun K "number_end" "number_end" s_number_end f fd := fun_of D
  have h2 := fun hb => fn_okX (P := P) (w := w) (mg := mg) (base := base) (m := m_number_end) (k := 3) h1 sc_number_end hb
  have h3 : spX K mg 3 (F_number_end) = spX K mg 3 (runX 7 (m_number_end)) := rfl
  rw [h3]
  refine h2 ?_
  intro cdv A outer s H E hr hgu
  exact (s_cons (s_asg (sl := [3]) (e_cmp (op_eqAll (u64 hr)) oEqA_ok (e_sub (e_var 0) (e_var 2)) e_str) (g_name 3 scN))
    (s_cons (s_asg (sl := [4]) (e_op op_addAll oAdd_ok (e_var 2) (e_ty cr_intS fIntS_ok rfl g_int PyProof.Rows.boot_int (a_cons (e_var 3) a_nil))) (g_name 4 scN))
    (s_cons (s_asg (sl := [5]) (e_callX c_digits_end hr hgu (by omega) rfl hx_def (a_cons (e_var 0) (a_cons (e_var 1) (a_cons (e_var 4) (a_cons (e_var 2) a_nil))))) (g_name 5 scN))
    (s_cons (s_if (T.pt (tw_or (t_cmp op_gtAll oCmp_ok (e_op op_sub oSub_ok (e_var 5) (e_var 4)) (e_op op_addAll oAdd_ok (e_intG i_MOST_DIGITS rfl) e_int)) (tw_or1 (T.pt (tw_and (t_tru (e_var 3)) (tw_and1 (t_cmp (op_eqAll (u64 hr)) oEqA_ok (e_sub (e_var 0) (e_var 4)) e_str))))))) (s_one (s_raise rfl hx_def (rac r_NoText hr (by omega)) (by decide) rfl (a_cons (e_var 1) (a_cons (e_var 2) a_nil)))) s_nil)
    (s_cons (s_asg (sl := [6]) (e_ty cr_intS fIntS_ok rfl g_int PyProof.Rows.boot_int (a_cons (e_slice (e_var 0) (p_some (e_var 4)) (p_some (e_var 5))) a_nil)) (g_name 6 scN))
    (s_cons (s_if (t_not (t_tru (e_call c_is_number hr hgu (by omega) rfl (a_cons (e_if (t_tru (e_var 3)) (e_un un_neg oNeg_ok (e_var 6)) (e_var 6)) a_nil)))) (s_one (s_raise rfl hx_def (rac r_NoText hr (by omega)) (by decide) rfl (a_cons (e_var 1) (a_cons (e_var 2) a_nil)))) s_nil)
    (s_one (s_ret (e_var 5)))))))))
abbrev s_variable_end : Stmt := top 23
theorem sc_variable_end : FnScope ["line", "row", "column", "end"] ["line", "row", "column"] (defScope s_variable_end) := ⟨rfl, rfl, rfl, by decide +kernel, rfl, by decide +kernel, by decide +kernel⟩
theorem ok_variable_end (D : FnP K "variable_end" s_variable_end f fd) (c_digits_end : ClGX P w K mg base 3 "digits_end" 4 G_digits_end) (i_MOST_DIGITS : ∃ t, mg "MOST_DIGITS" = some (.int (9) t)) (r_NoText : RaG P w K mg base "NoText" ([("line" : Str), ("column" : Str)] : List Str)) : FnG P w K mg base (L2.CX P w) (4) f fd ["line", "row", "column"] (spX K mg 3 (F_variable_end)) := by
  have scN := (sc_variable_end).nd
  have h1 : Fun K "variable_end" "variable_end" s_variable_end f fd := fun_of D
  have h2 := fun hb => fn_okX (P := P) (w := w) (mg := mg) (base := base) (m := m_variable_end) (k := 3) h1 sc_variable_end hb
  have h3 : spX K mg 3 (F_variable_end) = spX K mg 3 (runX 4 (m_variable_end)) := rfl
  rw [h3]
  refine h2 ?_
  intro cdv A outer s H E hr hgu
  exact (s_cons (s_asg (sl := [3]) (e_callX c_digits_end hr hgu (by omega) rfl hx_def (a_cons (e_var 0) (a_cons (e_var 1) (a_cons (e_op op_addAll oAdd_ok (e_var 2) e_int) (a_cons (e_var 2) a_nil))))) (g_name 3 scN))
    (s_cons (s_if (t_cmp op_gtAll oCmp_ok (e_op op_sub oSub_ok (e_op op_sub oSub_ok (e_var 3) (e_var 2)) e_int) (e_intG i_MOST_DIGITS rfl)) (s_one (s_raise rfl hx_def (rac r_NoText hr (by omega)) (by decide) rfl (a_cons (e_var 1) (a_cons (e_var 2) a_nil)))) s_nil)
    (s_one (s_ret (e_var 3)))))
abbrev s_word_end : Stmt := top 24
theorem sc_word_end : FnScope ["line", "row", "column", "sign"] ["line", "row", "column"] (defScope s_word_end) := ⟨rfl, rfl, rfl, by decide +kernel, rfl, by decide +kernel, by decide +kernel⟩
theorem ok_word_end (D : FnP K "word_end" s_word_end f fd) (c_name_end : ClGX P w K mg base 3 "name_end" 3 G_name_end) (c_number_end : ClGX P w K mg base 4 "number_end" 3 G_number_end) (c_variable_end : ClGX P w K mg base 4 "variable_end" 3 G_variable_end) (s_SMALL : ∃ t, mg "SMALL" = some (.str "abcdefghijklmnopqrstuvwxyz" t)) (s_GREAT : ∃ t, mg "GREAT" = some (.str "ABCDEFGHIJKLMNOPQRSTUVWXYZ" t)) (s_DIGITS : ∃ t, mg "DIGITS" = some (.str "0123456789" t)) (s_ALONE : ∃ t, mg "ALONE" = some (.str "=<+*(){},.|:_" t)) (r_NoText : RaG P w K mg base "NoText" ([("line" : Str), ("column" : Str)] : List Str)) : FnG P w K mg base (L2.CX P w) (5) f fd ["line", "row", "column"] (spX K mg 3 (F_word_end)) := by
  have scN := (sc_word_end).nd
  have h1 : Fun K "word_end" "word_end" s_word_end f fd := fun_of D
  have h2 := fun hb => fn_okX (P := P) (w := w) (mg := mg) (base := base) (m := m_word_end) (k := 4) h1 sc_word_end hb
  have h3 : spX K mg 3 (F_word_end) = spX K mg 3 (runX 4 (m_word_end)) := rfl
  rw [h3]
  refine h2 ?_
  intro cdv A outer s H E hr hgu
  exact (s_cons (s_asg (sl := [3]) (e_sub (e_var 0) (e_var 2)) (g_name 3 scN))
    (s_cons (s_if (t_cmp op_inS1 oInS1_ok (e_var 3) (e_op op_addAll oAdd_ok (e_strG s_SMALL rfl) (e_strG s_GREAT rfl))) (s_one (s_ret (e_callX c_name_end hr hgu (by omega) rfl hx_def (a_cons (e_var 0) (a_cons (e_var 1) (a_cons (e_var 2) a_nil)))))) s_nil)
    (s_cons (s_if (T.pt (tw_or (t_cmp op_inS1 oInS1_ok (e_var 3) (e_strG s_DIGITS rfl)) (tw_or1 (t_cmp (op_eqAll (u64 hr)) oEqA_ok (e_var 3) e_str)))) (s_one (s_ret (e_callX c_number_end hr hgu (by omega) rfl hx_def (a_cons (e_var 0) (a_cons (e_var 1) (a_cons (e_var 2) a_nil)))))) s_nil)
    (s_cons (s_if (t_cmp (op_eqAll (u64 hr)) oEqA_ok (e_var 3) e_str) (s_one (s_ret (e_callX c_variable_end hr hgu (by omega) rfl hx_def (a_cons (e_var 0) (a_cons (e_var 1) (a_cons (e_var 2) a_nil)))))) s_nil)
    (s_cons (s_if (t_cmp (op_eqAll (u64 hr)) oEqA_ok (e_var 3) e_str) (s_one (s_ret (e_if (t_cmp (op_eqAll (u64 hr)) oEqA_ok (e_slice (e_var 0) (p_some (e_op op_addAll oAdd_ok (e_var 2) e_int)) (p_some (e_op op_addAll oAdd_ok (e_var 2) e_int))) e_str) (e_op op_addAll oAdd_ok (e_var 2) e_int) (e_op op_addAll oAdd_ok (e_var 2) e_int)))) s_nil)
    (s_cons (s_if (t_cmp op_ninS1 oNInS1_ok (e_var 3) (e_strG s_ALONE rfl)) (s_one (s_raise rfl hx_def (rac r_NoText hr (by omega)) (by decide) rfl (a_cons (e_var 1) (a_cons (e_var 2) a_nil)))) s_nil)
    (s_one (s_ret (e_op op_addAll oAdd_ok (e_var 2) e_int)))))))))
abbrev s_line_words : Stmt := top 25
theorem sc_line_words : FnScope ["line", "row", "found", "column", "end"] ["line", "row"] (defScope s_line_words) := ⟨rfl, rfl, rfl, by decide +kernel, rfl, by decide +kernel, by decide +kernel⟩
theorem ok_line_words (D : FnP K "line_words" s_line_words f fd) (c_word_end : ClGX P w K mg base 5 "word_end" 3 G_word_end) (g_len : mg "len" = none) : FnG P w K mg base (L2.CX P w) (6) f fd ["line", "row"] (spX K mg 2 (F_line_words)) := by
  have scN := (sc_line_words).nd
  have h1 : Fun K "line_words" "line_words" s_line_words f fd := fun_of D
  have h2 := fun hb => fn_okX (P := P) (w := w) (mg := mg) (base := base) (m := m_line_words) (k := 5) h1 sc_line_words hb
  have h3 : spX K mg 2 (F_line_words) = spX K mg 2 (runX 5 (m_line_words)) := rfl
  rw [h3]
  refine h2 ?_
  intro cdv A outer s H E hr hgu
  exact (s_cons (s_par 2 3 rfl scN (a_cons (e_new (f_lst a_nil)) (a_cons e_int a_nil)))
    (s_cons (s_while (passes_of rfl) (T.pt (tw_and (t_cmp op_ltAll oCmp_ok (e_var 3) (e_bf cr_lenAll fLen_ok rfl g_len PySem.boot_len (a_cons (e_var 0) a_nil))) (tw_and1 (t_cmp (op_neAll (u64 hr)) oNeA_ok (e_sub (e_var 0) (e_var 3)) e_str)))) (s_one (s_if (t_cmp (op_eqAll (u64 hr)) oEqA_ok (e_sub (e_var 0) (e_var 3)) e_str) (s_one (s_aug 3 scN ip_add fIp_ok e_int)) (s_cons (s_asg (sl := [4]) (e_callX c_word_end hr hgu (by omega) rfl hx_def (a_cons (e_var 0) (a_cons (e_var 1) (a_cons (e_var 3) a_nil)))) (g_name 4 scN))
    (s_cons (s_ex (e_meth (T := .lst) mt_append mAppend_ok PySem.F.plainAttrs_list PySem.F.slot_list_append PySem.F.type_list_append (e_var 2) (a_cons (e_tup (a_cons (e_slice (e_var 0) (p_some (e_var 3)) (p_some (e_var 4))) (a_cons (e_var 1) (a_cons (e_var 3) a_nil)))) a_nil)))
    (s_one (s_asg (sl := [3]) (e_var 4) (g_name 3 scN))))))))
    (s_one (s_ret (e_var 2)))))
abbrev s_words_of : Stmt := top 26
theorem sc_words_of : FnScope ["text", "found", "row", "line"] ["text"] (defScope s_words_of) := ⟨rfl, rfl, rfl, by decide +kernel, rfl, by decide +kernel, by decide +kernel⟩
theorem ok_words_of (D : FnP K "words_of" s_words_of f fd) (c_line_words : ClGX P w K mg base 6 "line_words" 2 G_line_words) (g_isinstance : mg "isinstance" = none) (g_str : mg "str" = none) (g_enumerate : mg "enumerate" = none) (r_Wrong : RaG P w K mg base "Wrong" ([("place" : Str)] : List Str)) (ot : OtT K ([("Nothing" : Str)] : List Str)) (gn_Nothing : mg "Nothing" = some (.ref (He.ga K "Nothing"))) : FnG P w K mg base (L2.CX P w) (7) f fd ["text"] (spX K mg 1 (F_words_of)) := by
  have scN := (sc_words_of).nd
  have h1 : Fun K "words_of" "words_of" s_words_of f fd := fun_of D
  have h2 := fun hb => fn_okX (P := P) (w := w) (mg := mg) (base := base) (m := m_words_of) (k := 6) h1 sc_words_of hb
  have h3 : spX K mg 1 (F_words_of) = spX K mg 1 (runX 4 (m_words_of)) := rfl
  rw [h3]
  refine h2 ?_
  intro cdv A outer s H E hr hgu
  exact (s_cons (s_if (t_not (t_tru (e_bf call_isiX (oIsiO_ok ot) rfl g_isinstance PyProof.Rows.boot_isinstance (a_cons (e_var 0) (a_cons (e_tyN rfl g_str PySem.Pv.boot_str) a_nil))))) (s_one (s_raise rfl hx_def (rac r_Wrong hr (by omega)) (by decide) rfl (a_cons e_int a_nil))) s_nil)
    (s_cons (s_asg (sl := [1]) (e_new (f_lst a_nil)) (g_name 1 scN))
    (s_cons (s_for (sl := [2, 3]) (passes_of rfl) rfl (i_enum rfl g_enumerate (a_cons (e_val (f_split (e_var 0) e_str)) a_nil)) (g_tup (sl := [2, 3]) rfl (gs_cons (sl := [2, 3]) (sl1 := [2]) (sl2 := [3]) (g_name 2 scN) (gs_cons (sl := [3]) (sl1 := [3]) (sl2 := []) (g_name 3 scN) gs_nil))) (s_one (s_ex (e_meth (T := .lst) mt_extendAll mExtend_ok PySem.F.plainAttrs_list PySem.F.slot_list_extend PySem.F.type_list_extend (e_var 1) (a_cons (e_callX c_line_words hr hgu (by omega) rfl hx_def (a_cons (e_var 3) (a_cons (e_var 2) a_nil))) a_nil)))))
    (s_one (s_ret (e_var 1))))))
abbrev s_law_bag : Stmt := top 28
theorem sc_law_bag : FnScope ["script", "cell"] ["script"] (defScope s_law_bag) := ⟨rfl, rfl, rfl, by decide +kernel, rfl, by decide +kernel, by decide +kernel⟩
theorem ok_law_bag (D : FnP K "_law_bag" s_law_bag f fd) (g_abs : mg "abs" = none) : FnG P w K mg base CX0 (1) f fd ["script"] (spF K 1 (F_law_bag)) := by
  have scN := (sc_law_bag).nd
  have h1 : Fun K "_law_bag" "_law_bag" s_law_bag f fd := fun_of D
  have h2 := fun hb => fn_ok (P := P) (w := w) (mg := mg) (base := base) (m := m_law_bag) (k := 0) h1 sc_law_bag hb
  have h3 : spF K 1 (F_law_bag) = spF K 1 (runF 2 (m_law_bag)) := rfl
  rw [h3]
  refine h2 ?_
  intro cdv A outer s H E hr hgu
  exact (s_one (s_ret (e_new (f_lst (a_cons e_int (a_cons e_int (a_cons e_int (a_cons (e_val (f_lc (own := [(("cell" : Str), 1)]) (sl := [1]) rfl scN (i_seq (e_slice (e_var 0) p_none (p_some e_int))) rfl (fun _ _ _ _ _ => (g_name 1 scN)) (fun _ _ _ _ _ => ts_nil) (fun _ _ _ _ _ => (e_bf call_abs fAbs_ok rfl g_abs PyProof.Rows.boot_abs (a_cons (e_var 1) a_nil))))) a_nil))))))))
abbrev s_law_take : Stmt := top 29
theorem sc_law_take : FnScope ["bag", "many", "cell", "stirred", "value", "begin", "second"] ["bag", "many"] (defScope s_law_take) := ⟨rfl, rfl, rfl, by decide +kernel, rfl, by decide +kernel, by decide +kernel⟩
theorem ok_law_take (D : FnP K "_law_take" s_law_take f fd) (g_int : mg "int" = none) : FnG P w K mg base CX0 (1) f fd ["bag", "many"] (spF K 2 (F_law_take)) := by
  have scN := (sc_law_take).nd
  have h1 : Fun K "_law_take" "_law_take" s_law_take f fd := fun_of D
  have h2 := fun hb => fn_ok (P := P) (w := w) (mg := mg) (base := base) (m := m_law_take) (k := 0) h1 sc_law_take hb
  have h3 : spF K 2 (F_law_take) = spF K 2 (runF 7 (m_law_take)) := rfl
  rw [h3]
  refine h2 ?_
  intro cdv A outer s H E hr hgu
  exact (s_cons (s_if (t_cmp (op_eqAll (u64 hr)) oEqA_ok (e_sub (e_var 0) e_int) e_int) (s_cons (s_asg (sl := [2]) (e_sub (e_op op_addAll oAdd_ok (e_slice (e_sub (e_var 0) e_int) (p_some (e_sub (e_var 0) e_int)) p_none) (e_val (f_lst (a_cons e_int a_nil)))) e_int) (g_name 2 scN))
    (s_cons (s_augS (u1 hr) (e_var 0) e_int ip_add fIp_ok e_int)
    (s_cons (s_if (t_cmp op_geAll oCmp_ok (e_var 2) (e_op op_pow oPow_ok e_int e_int)) (s_one (s_asg (sl := []) (e_var 2) (g_sub (u1 hr) (e_var 0) e_int))) s_nil)
    (s_cons (s_asg (sl := [3]) (e_op op_addAll oAdd_ok (e_op op_addAll oAdd_ok (e_op op_mulAll oMul_ok (e_sub (e_var 0) e_int) e_int) (e_op op_mod oMod_ok (e_ty cr_intS fIntS_ok rfl g_int PyProof.Rows.boot_int (a_cons (e_var 2) a_nil)) e_int)) (e_op op_mulAll oMul_ok e_int (e_sub (e_var 0) e_int))) (g_name 3 scN))
    (s_one (s_asg (sl := []) (e_op op_mod oMod_ok (e_ty cr_intS fIntS_ok rfl g_int PyProof.Rows.boot_int (a_cons (e_var 3) a_nil)) e_int) (g_sub (u1 hr) (e_var 0) e_int))))))) s_nil)
    (s_cons (s_if (t_cmp op_gtAll oCmp_ok (e_sub (e_var 0) e_int) e_int) (s_cons (s_asg (sl := [4]) (e_op op_mod oMod_ok (e_ty cr_intS fIntS_ok rfl g_int PyProof.Rows.boot_int (a_cons (e_sub (e_var 0) e_int) a_nil)) (e_var 1)) (g_name 4 scN))
    (s_cons (s_asg (sl := []) (e_op op_fdiv oFdiv_ok (e_ty cr_intS fIntS_ok rfl g_int PyProof.Rows.boot_int (a_cons (e_sub (e_var 0) e_int) a_nil)) (e_var 1)) (g_sub (u1 hr) (e_var 0) e_int))
    (s_one (s_ret (e_var 4))))) s_nil)
    (s_cons (s_asg (sl := [5]) (e_op op_mod oMod_ok (e_ty cr_intS fIntS_ok rfl g_int PyProof.Rows.boot_int (a_cons (e_op op_mulAll oMul_ok (e_op op_addAll oAdd_ok (e_sub (e_var 0) e_int) e_int) e_int) a_nil)) e_int) (g_name 5 scN))
    (s_cons (s_asg (sl := [6]) (e_op op_mod oMod_ok (e_ty cr_intS fIntS_ok rfl g_int PyProof.Rows.boot_int (a_cons (e_op op_mulAll oMul_ok (e_op op_mod oMod_ok (e_ty cr_intS fIntS_ok rfl g_int PyProof.Rows.boot_int (a_cons (e_op op_mulAll oMul_ok (e_var 5) (e_var 5)) a_nil)) e_int) e_int) a_nil)) e_int) (g_name 6 scN))
    (s_one (s_ret (e_op op_mod oMod_ok (e_ty cr_intS fIntS_ok rfl g_int PyProof.Rows.boot_int (a_cons (e_op op_fdiv oFdiv_ok (e_var 6) e_int) a_nil)) (e_var 1))))))))
abbrev s_law_some : Stmt := top 30
theorem sc_law_some : FnScope ["bag", "things"] ["bag", "things"] (defScope s_law_some) := ⟨rfl, rfl, rfl, by decide +kernel, rfl, by decide +kernel, by decide +kernel⟩
theorem ok_law_some (D : FnP K "_law_some" s_law_some f fd) (c_law_take : ClG P w K mg base 1 "_law_take" 2 G_law_take) (g_len : mg "len" = none) : FnG P w K mg base CX0 (2) f fd ["bag", "things"] (spF K 2 (F_law_some)) := by
  have scN := (sc_law_some).nd
  have h1 : Fun K "_law_some" "_law_some" s_law_some f fd := fun_of D
  have h2 := fun hb => fn_ok (P := P) (w := w) (mg := mg) (base := base) (m := m_law_some) (k := 1) h1 sc_law_some hb
  have h3 : spF K 2 (F_law_some) = spF K 2 (runF 2 (m_law_some)) := rfl
  rw [h3]
  refine h2 ?_
  intro cdv A outer s H E hr hgu
  exact (s_one (s_ret (e_sub (e_var 1) (e_call c_law_take hr hgu (by omega) rfl (a_cons (e_var 0) (a_cons (e_bf cr_lenAll fLen_ok rfl g_len PySem.boot_len (a_cons (e_var 1) a_nil)) a_nil))))))
abbrev s_law_alike : Stmt := top 31
theorem sc_law_alike : FnScope ["found", "due"] ["found", "due"] (defScope s_law_alike) := ⟨rfl, rfl, rfl, by decide +kernel, rfl, by decide +kernel, by decide +kernel⟩
theorem ok_law_alike (D : FnP K "_law_alike" s_law_alike f fd) (g_repr : mg "repr" = none) : FnG P w K mg base CX0 (1) f fd ["found", "due"] (spF K 2 (F_law_alike)) := by
  have scN := (sc_law_alike).nd
  have h1 : Fun K "_law_alike" "_law_alike" s_law_alike f fd := fun_of D
  have h2 := fun hb => fn_ok (P := P) (w := w) (mg := mg) (base := base) (m := m_law_alike) (k := 0) h1 sc_law_alike hb
  have h3 : spF K 2 (F_law_alike) = spF K 2 (runF 2 (m_law_alike)) := rfl
  rw [h3]
  refine h2 ?_
  intro cdv A outer s H E hr hgu
  exact (s_one (s_ret (e_and (e_cmp (op_eqAll (u64 hr)) oEqA_ok (e_var 0) (e_var 1)) (e_one (e_cmp (op_eqAll (u64 hr)) oEqA_ok (e_bf (cr_reprB hgu (u66 hr)) fReprB_ok rfl g_repr PyProof.Rows.boot_repr (a_cons (e_var 0) a_nil)) (e_bf (cr_reprB hgu (u66 hr)) fReprB_ok rfl g_repr PyProof.Rows.boot_repr (a_cons (e_var 1) a_nil)))))))
abbrev s_law_barred : Stmt := top 32
theorem sc_law_barred : FnScope ["found"] [] (defScope s_law_barred) := ⟨rfl, rfl, rfl, by decide +kernel, rfl, by decide +kernel, by decide +kernel⟩
theorem ok_law_barred (D : FnP K "_law_barred" s_law_barred f fd) : FnG P w K mg base CX0 (1) f fd [] (spF K 0 (F_law_barred)) := by
  have scN := (sc_law_barred).nd
  have h1 : Fun K "_law_barred" "_law_barred" s_law_barred f fd := fun_of D
  have h2 := fun hb => fn_ok (P := P) (w := w) (mg := mg) (base := base) (m := m_law_barred) (k := 0) h1 sc_law_barred hb
  have h3 : spF K 0 (F_law_barred) = spF K 0 (runF 1 (m_law_barred)) := rfl
  rw [h3]
  refine h2 ?_
  intro cdv A outer s H E hr hgu
  exact (s_cons (s_asg (sl := [0]) (e_val (f_lst (a_cons e_str (a_cons e_str (a_cons e_str (a_cons e_str (a_cons e_str (a_cons e_str (a_cons e_str (a_cons e_str (a_cons e_str (a_cons e_str (a_cons e_str (a_cons e_str (a_cons e_str (a_cons e_str a_nil)))))))))))))))) (g_name 0 scN))
    (s_one (s_ret (e_op op_addAll oAdd_ok (e_var 0) (e_val (f_lst (a_cons e_str (a_cons e_str (a_cons e_str (a_cons e_str (a_cons e_str (a_cons e_str (a_cons e_str a_nil)))))))))))))
abbrev s_law_small_signs : Stmt := top 33
theorem sc_law_small_signs : FnScope [] [] (defScope s_law_small_signs) := ⟨rfl, rfl, rfl, by decide +kernel, rfl, by decide +kernel, by decide +kernel⟩
theorem ok_law_small_signs (D : FnP K "_law_small_signs" s_law_small_signs f fd) : FnG P w K mg base CX0 (1) f fd [] (spF K 0 (F_law_small_signs)) := by
  have scN := (sc_law_small_signs).nd
  have h1 : Fun K "_law_small_signs" "_law_small_signs" s_law_small_signs f fd := fun_of D
  have h2 := fun hb => fn_ok (P := P) (w := w) (mg := mg) (base := base) (m := m_law_small_signs) (k := 0) h1 sc_law_small_signs hb
  have h3 : spF K 0 (F_law_small_signs) = spF K 0 (runF 0 (m_law_small_signs)) := rfl
  rw [h3]
  refine h2 ?_
  intro cdv A outer s H E hr hgu
  exact (s_one (s_ret e_str))
abbrev s_law_great_signs : Stmt := top 34
theorem sc_law_great_signs : FnScope [] [] (defScope s_law_great_signs) := ⟨rfl, rfl, rfl, by decide +kernel, rfl, by decide +kernel, by decide +kernel⟩
theorem ok_law_great_signs (D : FnP K "_law_great_signs" s_law_great_signs f fd) : FnG P w K mg base CX0 (1) f fd [] (spF K 0 (F_law_great_signs)) := by
  have scN := (sc_law_great_signs).nd
  have h1 : Fun K "_law_great_signs" "_law_great_signs" s_law_great_signs f fd := fun_of D
  have h2 := fun hb => fn_ok (P := P) (w := w) (mg := mg) (base := base) (m := m_law_great_signs) (k := 0) h1 sc_law_great_signs hb
  have h3 : spF K 0 (F_law_great_signs) = spF K 0 (runF 0 (m_law_great_signs)) := rfl
  rw [h3]
  refine h2 ?_
  intro cdv A outer s H E hr hgu
  exact (s_one (s_ret e_str))
abbrev s_law_figures : Stmt := top 35
theorem sc_law_figures : FnScope [] [] (defScope s_law_figures) := ⟨rfl, rfl, rfl, by decide +kernel, rfl, by decide +kernel, by decide +kernel⟩
theorem ok_law_figures (D : FnP K "_law_figures" s_law_figures f fd) : FnG P w K mg base CX0 (1) f fd [] (spF K 0 (F_law_figures)) := by
  have scN := (sc_law_figures).nd
  have h1 : Fun K "_law_figures" "_law_figures" s_law_figures f fd := fun_of D
  have h2 := fun hb => fn_ok (P := P) (w := w) (mg := mg) (base := base) (m := m_law_figures) (k := 0) h1 sc_law_figures hb
  have h3 : spF K 0 (F_law_figures) = spF K 0 (runF 0 (m_law_figures)) := rfl
  rw [h3]
  refine h2 ?_
  intro cdv A outer s H E hr hgu
  exact (s_one (s_ret e_str))
abbrev s_law_odd : Stmt := top 36
theorem sc_law_odd : FnScope ["bag", "some"] ["bag"] (defScope s_law_odd) := ⟨rfl, rfl, rfl, by decide +kernel, rfl, by decide +kernel, by decide +kernel⟩
theorem ok_law_odd (D : FnP K "_law_odd" s_law_odd f fd) (c_law_some : ClG P w K mg base 2 "_law_some" 2 G_law_some) : FnG P w K mg base CX0 (3) f fd ["bag"] (spF K 1 (F_law_odd)) := by
  have scN := (sc_law_odd).nd
  have h1 : Fun K "_law_odd" "_law_odd" s_law_odd f fd := fun_of D
  have h2 := fun hb => fn_ok (P := P) (w := w) (mg := mg) (base := base) (m := m_law_odd) (k := 2) h1 sc_law_odd hb
  have h3 : spF K 1 (F_law_odd) = spF K 1 (runF 2 (m_law_odd)) := rfl
  rw [h3]
  refine h2 ?_
  intro cdv A outer s H E hr hgu
  exact (s_cons (s_asg (sl := [1]) (e_val (f_lst (a_cons e_non (a_cons e_bl (a_cons e_bl (a_cons e_int (a_cons e_int (a_cons (e_un un_neg oNeg_ok e_int) (a_cons (e_op op_pow oPow_ok e_int e_int) (a_cons e_str (a_cons e_str (a_cons e_str (a_cons e_str (a_cons e_str (a_cons e_str (a_cons e_str (a_cons (e_tup a_nil) (a_cons (e_val (f_lst a_nil)) (a_cons (e_val f_dct0) (a_cons (e_tup (a_cons e_int a_nil)) (a_cons (e_val (f_lst (a_cons e_int a_nil))) a_nil))))))))))))))))))))) (g_name 1 scN))
    (s_cons (s_asg (sl := [1]) (e_op op_addAll oAdd_ok (e_var 1) (e_val (f_lst (a_cons (e_tup (a_cons e_str a_nil)) (a_cons (e_tup (a_cons e_str (a_cons e_int a_nil))) (a_cons (e_tup (a_cons e_str (a_cons e_bl a_nil))) (a_cons (e_tup (a_cons e_str (a_cons e_int a_nil))) (a_cons (e_tup (a_cons e_str a_nil)) (a_cons (e_val (f_lst (a_cons e_str a_nil))) (a_cons (e_tup (a_cons e_str (a_cons e_int a_nil))) (a_cons (e_tup (a_cons e_str (a_cons (e_un un_neg oNeg_ok e_int) a_nil))) a_nil))))))))))) (g_name 1 scN))
    (s_cons (s_asg (sl := [1]) (e_op op_addAll oAdd_ok (e_var 1) (e_val (f_lst (a_cons (e_tup (a_cons e_str (a_cons (e_tup (a_cons (e_tup (a_cons e_str (a_cons e_int a_nil))) a_nil)) a_nil))) (a_cons (e_tup (a_cons e_str (a_cons e_str a_nil))) (a_cons (e_tup (a_cons e_str (a_cons e_str a_nil))) (a_cons (e_tup (a_cons e_str (a_cons e_str a_nil))) (a_cons (e_tup (a_cons e_str (a_cons e_str (a_cons (e_tup a_nil) a_nil)))) a_nil)))))))) (g_name 1 scN))
    (s_cons (s_asg (sl := [1]) (e_op op_addAll oAdd_ok (e_var 1) (e_val (f_lst (a_cons (e_tup (a_cons e_str (a_cons (e_tup a_nil) a_nil))) (a_cons (e_tup (a_cons e_str (a_cons e_int a_nil))) (a_cons (e_tup (a_cons e_str (a_cons e_str (a_cons e_non a_nil)))) (a_cons (e_tup (a_cons e_str (a_cons (e_tup a_nil) (a_cons (e_tup (a_cons e_str (a_cons e_int a_nil))) a_nil)))) (a_cons (e_tup (a_cons e_str (a_cons e_str (a_cons e_int (a_cons e_int a_nil))))) a_nil)))))))) (g_name 1 scN))
    (s_one (s_ret (e_call c_law_some hr hgu (by omega) rfl (a_cons (e_var 0) (a_cons (e_op op_addAll oAdd_ok (e_var 1) (e_val (f_lst (a_cons (e_val (f_disp (ds_cons e_int e_int ds_nil))) (a_cons (e_tup (a_cons (e_tup a_nil) a_nil)) a_nil))))) a_nil)))))))))
abbrev s_law_run_from : Stmt := top 38
theorem sc_law_run_from : FnScope ["text", "at", "signs", "end"] ["text", "at", "signs"] (defScope s_law_run_from) := ⟨rfl, rfl, rfl, by decide +kernel, rfl, by decide +kernel, by decide +kernel⟩
theorem ok_law_run_from (D : FnP K "_law_run_from" s_law_run_from f fd) (g_len : mg "len" = none) : FnG P w K mg base CX0 (1) f fd ["text", "at", "signs"] (spF K 3 (F_law_run_from)) := by
  have scN := (sc_law_run_from).nd
  have h1 : Fun K "_law_run_from" "_law_run_from" s_law_run_from f fd := fun_of D
  have h2 := fun hb => fn_ok (P := P) (w := w) (mg := mg) (base := base) (m := m_law_run_from) (k := 0) h1 sc_law_run_from hb
  have h3 : spF K 3 (F_law_run_from) = spF K 3 (runF 4 (m_law_run_from)) := rfl
  rw [h3]
  refine h2 ?_
  intro cdv A outer s H E hr hgu
  exact (s_cons (s_asg (sl := [3]) (e_var 1) (g_name 3 scN))
    (s_cons (s_while PassesOwn.never (T.pt (tw_and (t_cmp op_ltAll oCmp_ok (e_var 3) (e_bf cr_lenAll fLen_ok rfl g_len PySem.boot_len (a_cons (e_var 0) a_nil))) (tw_and1 (t_cmp op_inS1 oInS1_ok (e_sub (e_var 0) (e_var 3)) (e_var 2))))) (s_one (s_aug 3 scN ip_add fIp_ok e_int)))
    (s_one (s_ret (e_slice (e_var 0) (p_some (e_var 1)) (p_some (e_var 3)))))))
abbrev s_law_word_at : Stmt := top 39
theorem sc_law_word_at : FnScope ["text", "at", "letters", "signs", "word", "end", "other", "head", "figures", "number"] ["text", "at"] (defScope s_law_word_at) := ⟨rfl, rfl, rfl, by decide +kernel, rfl, by decide +kernel, by decide +kernel⟩
theorem ok_law_word_at (D : FnP K "_law_word_at" s_law_word_at f fd) (c_law_small_signs : ClG P w K mg base 1 "_law_small_signs" 0 G_law_small_signs) (c_law_great_signs : ClG P w K mg base 1 "_law_great_signs" 0 G_law_great_signs) (c_law_figures : ClG P w K mg base 1 "_law_figures" 0 G_law_figures) (c_law_run_from : ClG P w K mg base 1 "_law_run_from" 3 G_law_run_from) (c_law_barred : ClG P w K mg base 1 "_law_barred" 0 G_law_barred) (g_len : mg "len" = none) (g_tuple : mg "tuple" = none) (g_int : mg "int" = none) : FnG P w K mg base CX0 (2) f fd ["text", "at"] (spF K 2 (F_law_word_at)) := by
  have scN := (sc_law_word_at).nd
  have h1 : Fun K "_law_word_at" "_law_word_at" s_law_word_at f fd := fun_of D
  have h2 := fun hb => fn_ok (P := P) (w := w) (mg := mg) (base := base) (m := m_law_word_at) (k := 1) h1 sc_law_word_at hb
  have h3 : spF K 2 (F_law_word_at) = spF K 2 (runF 10 (m_law_word_at)) := rfl
  rw [h3]
  refine h2 ?_
  intro cdv A outer s H E hr hgu
  exact (s_cons (s_asg (sl := [2]) (e_op op_addAll oAdd_ok (e_call0 c_law_small_signs hr hgu (by omega) rfl) (e_call0 c_law_great_signs hr hgu (by omega) rfl)) (g_name 2 scN))
    (s_cons (s_asg (sl := [3]) (e_op op_addAll oAdd_ok (e_op op_addAll oAdd_ok (e_var 2) (e_call0 c_law_figures hr hgu (by omega) rfl)) e_str) (g_name 3 scN))
    (s_cons (s_if (t_cmp op_inS1 oInS1_ok (e_sub (e_var 0) (e_var 1)) (e_var 2)) (s_cons (s_asg (sl := [4]) (e_call c_law_run_from hr hgu (by omega) rfl (a_cons (e_var 0) (a_cons (e_var 1) (a_cons (e_var 3) a_nil)))) (g_name 4 scN))
    (s_cons (s_if (t_cmp op_gtAll oCmp_ok (e_bf cr_lenAll fLen_ok rfl g_len PySem.boot_len (a_cons (e_var 4) a_nil)) e_int) (s_one (s_ret (e_tup (a_cons e_non (a_cons e_int a_nil))))) s_nil)
    (s_cons (s_asg (sl := [5]) (e_op op_addAll oAdd_ok (e_var 1) (e_bf cr_lenAll fLen_ok rfl g_len PySem.boot_len (a_cons (e_var 4) a_nil))) (g_name 5 scN))
    (s_cons (s_if (T.pt (tw_and (t_cmp op_inS1 oInS1_ok (e_sub (e_var 0) (e_var 1)) (e_call0 c_law_great_signs hr hgu (by omega) rfl)) (tw_and (t_cmp (op_eqAll (u64 hr)) oEqA_ok (e_slice (e_var 0) (p_some (e_var 5)) (p_some (e_op op_addAll oAdd_ok (e_var 5) e_int))) e_str) (tw_and1 (t_cmp op_inAll oIn_ok (e_slice (e_var 0) (p_some (e_op op_addAll oAdd_ok (e_var 5) e_int)) (p_some (e_op op_addAll oAdd_ok (e_var 5) e_int))) (e_ty (CallR.or call_tupleP (cr_tupS rfl)) fTupleS_ok rfl g_tuple PyProof.Rows.boot_tuple (a_cons (e_var 2) a_nil))))))) (s_cons (s_asg (sl := [6]) (e_call c_law_run_from hr hgu (by omega) rfl (a_cons (e_var 0) (a_cons (e_op op_addAll oAdd_ok (e_var 5) e_int) (a_cons (e_var 3) a_nil)))) (g_name 6 scN))
    (s_cons (s_if (T.pt (tw_or (t_cmp op_gtAll oCmp_ok (e_bf cr_lenAll fLen_ok rfl g_len PySem.boot_len (a_cons (e_var 6) a_nil)) e_int) (tw_or1 (t_cmp op_inAll oIn_ok (e_var 6) (e_call0 c_law_barred hr hgu (by omega) rfl))))) (s_one (s_ret (e_tup (a_cons e_non (a_cons (e_op op_addAll oAdd_ok (e_bf cr_lenAll fLen_ok rfl g_len PySem.boot_len (a_cons (e_var 4) a_nil)) e_int) a_nil))))) s_nil)
    (s_one (s_ret (e_tup (a_cons (e_op op_addAll oAdd_ok (e_op op_addAll oAdd_ok (e_var 4) e_str) (e_var 6)) (a_cons e_non a_nil))))))) s_nil)
    (s_one (s_ret (e_tup (a_cons (e_var 4) (a_cons e_non a_nil))))))))) s_nil)
    (s_cons (s_if (T.pt (tw_or (t_cmp op_inS1 oInS1_ok (e_sub (e_var 0) (e_var 1)) e_str) (tw_or1 (t_cmp op_inS1 oInS1_ok (e_sub (e_var 0) (e_var 1)) (e_call0 c_law_figures hr hgu (by omega) rfl))))) (s_cons (s_asg (sl := [7]) (e_if (t_cmp op_inS1 oInS1_ok (e_sub (e_var 0) (e_var 1)) e_str) (e_sub (e_var 0) (e_var 1)) e_str) (g_name 7 scN))
    (s_cons (s_asg (sl := [8]) (e_call c_law_run_from hr hgu (by omega) rfl (a_cons (e_var 0) (a_cons (e_op op_addAll oAdd_ok (e_var 1) (e_bf cr_lenAll fLen_ok rfl g_len PySem.boot_len (a_cons (e_var 7) a_nil))) (a_cons (e_call0 c_law_figures hr hgu (by omega) rfl) a_nil)))) (g_name 8 scN))
    (s_cons (s_if (T.pt (tw_or (t_cmp (op_eqAll (u64 hr)) oEqA_ok (e_var 8) e_str) (tw_or (T.pt (tw_and (t_cmp op_gtAll oCmp_ok (e_bf cr_lenAll fLen_ok rfl g_len PySem.boot_len (a_cons (e_var 8) a_nil)) e_int) (tw_and1 (t_cmp (op_eqAll (u64 hr)) oEqA_ok (e_sub (e_var 8) e_int) e_str)))) (tw_or1 (T.pt (tw_and (t_cmp (op_eqAll (u64 hr)) oEqA_ok (e_var 7) e_str) (tw_and1 (t_cmp (op_eqAll (u64 hr)) oEqA_ok (e_var 8) e_str)))))))) (s_one (s_ret (e_tup (a_cons e_non (a_cons e_int a_nil))))) s_nil)
    (s_cons (s_if (t_cmp (op_eqAll (u64 hr)) oEqA_ok (e_var 7) e_str) (s_one (s_ret (e_if (t_cmp op_gtAll oCmp_ok (e_bf cr_lenAll fLen_ok rfl g_len PySem.boot_len (a_cons (e_var 8) a_nil)) e_int) (e_tup (a_cons e_non (a_cons e_int a_nil))) (e_tup (a_cons (e_op op_addAll oAdd_ok e_str (e_var 8)) (a_cons e_non a_nil)))))) s_nil)
    (s_cons (s_asg (sl := [9]) (e_if (t_cmp op_ltAll oCmp_ok (e_bf cr_lenAll fLen_ok rfl g_len PySem.boot_len (a_cons (e_var 8) a_nil)) e_int) (e_ty cr_intS fIntS_ok rfl g_int PyProof.Rows.boot_int (a_cons (e_var 8) a_nil)) (e_op op_pow oPow_ok e_int e_int)) (g_name 9 scN))
    (s_one (s_ret (e_if (t_cmp op_leAll oCmp_ok (e_var 9) (e_op op_addAll oAdd_ok e_int (e_ty cr_intS fIntS_ok rfl g_int PyProof.Rows.boot_int (a_cons (e_cmp (op_eqAll (u64 hr)) oEqA_ok (e_var 7) e_str) a_nil)))) (e_tup (a_cons (e_op op_addAll oAdd_ok (e_var 7) (e_var 8)) (a_cons e_non a_nil))) (e_tup (a_cons e_non (a_cons e_int a_nil))))))))))) s_nil)
    (s_cons (s_if (t_cmp (op_eqAll (u64 hr)) oEqA_ok (e_slice (e_var 0) (p_some (e_var 1)) (p_some (e_op op_addAll oAdd_ok (e_var 1) e_int))) e_str) (s_one (s_ret (e_tup (a_cons e_str (a_cons e_non a_nil))))) s_nil)
    (s_one (s_ret (e_if (t_cmp op_inS1 oInS1_ok (e_sub (e_var 0) (e_var 1)) e_str) (e_tup (a_cons (e_sub (e_var 0) (e_var 1)) (a_cons e_non a_nil))) (e_tup (a_cons e_non (a_cons e_int a_nil)))))))))))
abbrev s_law_scanned : Stmt := top 37
theorem sc_law_scanned : FnScope ["text", "found", "line", "column", "at", "sign", "word", "wrong"] ["text"] (defScope s_law_scanned) := ⟨rfl, rfl, rfl, by decide +kernel, rfl, by decide +kernel, by decide +kernel⟩
theorem ok_law_scanned (D : FnP K "_law_scanned" s_law_scanned f fd) (c_law_word_at : ClG P w K mg base 2 "_law_word_at" 2 G_law_word_at) (g_len : mg "len" = none) : FnG P w K mg base CX0 (3) f fd ["text"] (spF K 1 (F_law_scanned)) := by
  have scN := (sc_law_scanned).nd
  have h1 : Fun K "_law_scanned" "_law_scanned" s_law_scanned f fd := fun_of D
  have h2 := fun hb => fn_ok (P := P) (w := w) (mg := mg) (base := base) (m := m_law_scanned) (k := 2) h1 sc_law_scanned hb
  have h3 : spF K 1 (F_law_scanned) = spF K 1 (runF 8 (m_law_scanned)) := rfl
  rw [h3]
  refine h2 ?_
  intro cdv A outer s H E hr hgu
  exact (s_cons (s_asg (sl := [1, 2, 3, 4]) (e_tup (a_cons (e_new (f_lst a_nil)) (a_cons e_int (a_cons e_int (a_cons e_int a_nil))))) (g_tup (sl := [1, 2, 3, 4]) rfl (gs_cons (sl := [1, 2, 3, 4]) (sl1 := [1]) (sl2 := [2, 3, 4]) (g_name 1 scN) (gs_cons (sl := [2, 3, 4]) (sl1 := [2]) (sl2 := [3, 4]) (g_name 2 scN) (gs_cons (sl := [3, 4]) (sl1 := [3]) (sl2 := [4]) (g_name 3 scN) (gs_cons (sl := [4]) (sl1 := [4]) (sl2 := []) (g_name 4 scN) gs_nil))))))
    (s_cons (s_while PassesOwn.never (t_cmp op_ltAll oCmp_ok (e_var 4) (e_bf cr_lenAll fLen_ok rfl g_len PySem.boot_len (a_cons (e_var 0) a_nil))) (s_cons (s_asg (sl := [5]) (e_sub (e_var 0) (e_var 4)) (g_name 5 scN))
    (s_cons (s_if (t_cmp (op_eqAll (u64 hr)) oEqA_ok (e_var 5) e_str) (s_cons (s_par3 2 3 4 rfl scN (a_cons (e_op op_addAll oAdd_ok (e_var 2) e_int) (a_cons e_int (a_cons (e_op op_addAll oAdd_ok (e_var 4) e_int) a_nil))))
    (s_one s_cont)) s_nil)
    (s_cons (s_if (t_cmp (op_eqAll (u64 hr)) oEqA_ok (e_var 5) e_str) (s_cons (s_while PassesOwn.never (T.pt (tw_and (t_cmp op_ltAll oCmp_ok (e_var 4) (e_bf cr_lenAll fLen_ok rfl g_len PySem.boot_len (a_cons (e_var 0) a_nil))) (tw_and1 (t_cmp (op_neAll (u64 hr)) oNeA_ok (e_sub (e_var 0) (e_var 4)) e_str)))) (s_one (s_par 4 3 rfl scN (a_cons (e_op op_addAll oAdd_ok (e_var 4) e_int) (a_cons (e_op op_addAll oAdd_ok (e_var 3) e_int) a_nil)))))
    (s_one s_cont)) s_nil)
    (s_cons (s_if (t_cmp (op_eqAll (u64 hr)) oEqA_ok (e_var 5) e_str) (s_cons (s_par 4 3 rfl scN (a_cons (e_op op_addAll oAdd_ok (e_var 4) e_int) (a_cons (e_op op_addAll oAdd_ok (e_var 3) e_int) a_nil)))
    (s_one s_cont)) s_nil)
    (s_cons (s_asg (sl := [6, 7]) (e_call c_law_word_at hr hgu (by omega) rfl (a_cons (e_var 0) (a_cons (e_var 4) a_nil))) (g_tup (sl := [6, 7]) rfl (gs_cons (sl := [6, 7]) (sl1 := [6]) (sl2 := [7]) (g_name 6 scN) (gs_cons (sl := [7]) (sl1 := [7]) (sl2 := []) (g_name 7 scN) gs_nil))))
    (s_cons (s_if (t_cmp op_notN oIsNot_ok (e_var 7) e_non) (s_one (s_ret (e_tup (a_cons e_str (a_cons (e_var 2) (a_cons (e_op op_addAll oAdd_ok (e_var 3) (e_var 7)) a_nil)))))) s_nil)
    (s_cons (s_ex (e_meth (T := .lst) mt_append mAppend_ok PySem.F.plainAttrs_list PySem.F.slot_list_append PySem.F.type_list_append (e_var 1) (a_cons (e_tup (a_cons (e_var 6) (a_cons (e_var 2) (a_cons (e_var 3) a_nil)))) a_nil)))
    (s_one (s_par 4 3 rfl scN (a_cons (e_op op_addAll oAdd_ok (e_var 4) (e_bf cr_lenAll fLen_ok rfl g_len PySem.boot_len (a_cons (e_var 6) a_nil))) (a_cons (e_op op_addAll oAdd_ok (e_var 3) (e_bf cr_lenAll fLen_ok rfl g_len PySem.boot_len (a_cons (e_var 6) a_nil))) a_nil))))))))))))
    (s_one (s_ret (e_tup (a_cons e_str (a_cons (e_var 1) a_nil)))))))
abbrev s_law_heard : Stmt := top 40
theorem sc_law_heard : FnScope ["text", "e"] ["text"] (defScope s_law_heard) := ⟨rfl, rfl, rfl, by decide +kernel, rfl, by decide +kernel, by decide +kernel⟩
theorem ok_law_heard (D : FnP K "_law_heard" s_law_heard f fd) (c_words_of : ClGX P w K mg base 7 "words_of" 1 G_words_of) (kt_xt_law_heard : XtOk K mg xt_law_heard ([("NoText" : Str), ("Wrong" : Str), ("SwornError" : Str)] : List Str)) : FnG P w K mg base CX0 (8) f fd ["text"] (spF K 1 (F_law_heard)) := by
  have scN := (sc_law_heard).nd
  have h1 : Fun K "_law_heard" "_law_heard" s_law_heard f fd := fun_of D
  have h2 := fun hb => fn_ok (P := P) (w := w) (mg := mg) (base := base) (m := m_law_heard) (k := 7) h1 sc_law_heard hb
  have h3 : spF K 1 (F_law_heard) = spF K 1 (runF 2 (m_law_heard)) := rfl
  rw [h3]
  refine h2 ?_
  intro cdv A outer s H E hr hgu
  exact (s_one (s_try rfl rfl hx_none kt_xt_law_heard (Cls.named rfl rfl scN rfl rfl (h_tup (hs_cons h_str (hs_cons (h_fld rfl (.inl rfl)) (hs_cons (h_fld rfl (.inl rfl)) hs_nil)))) (Cls.named rfl rfl scN rfl rfl (h_tup (hs_cons h_str (hs_cons (h_fld rfl (.inl rfl)) hs_nil))) (Cls.bare rfl rfl (h_tup (hs_cons h_str hs_nil)) Cls.nil))) trivial (fun pn xe EW2 hxT hps => (s_one (s_ret (e_tup (a_cons e_str (a_cons (e_callX c_words_of hr hgu (by omega) rfl hxT (a_cons (e_var 0) a_nil)) a_nil))))))))
abbrev s_law_near_word : Stmt := top 41
theorem sc_law_near_word : FnScope ["bag", "some", "odd", "turn"] ["bag"] (defScope s_law_near_word) := ⟨rfl, rfl, rfl, by decide +kernel, rfl, by decide +kernel, by decide +kernel⟩
theorem ok_law_near_word (D : FnP K "_law_near_word" s_law_near_word f fd) (c_law_some : ClG P w K mg base 2 "_law_some" 2 G_law_some) (c_law_barred : ClG P w K mg base 1 "_law_barred" 0 G_law_barred) (c_law_take : ClG P w K mg base 1 "_law_take" 2 G_law_take) (g_range : mg "range" = none) : FnG P w K mg base CX0 (3) f fd ["bag"] (spF K 1 (F_law_near_word)) := by
  have scN := (sc_law_near_word).nd
  have h1 : Fun K "_law_near_word" "_law_near_word" s_law_near_word f fd := fun_of D
  have h2 := fun hb => fn_ok (P := P) (w := w) (mg := mg) (base := base) (m := m_law_near_word) (k := 2) h1 sc_law_near_word hb
  have h3 : spF K 1 (F_law_near_word) = spF K 1 (runF 4 (m_law_near_word)) := rfl
  rw [h3]
  refine h2 ?_
  intro cdv A outer s H E hr hgu
  exact (s_cons (s_asg (sl := [1]) (e_val (f_lst (a_cons e_str (a_cons e_str (a_cons e_str (a_cons e_str (a_cons e_str (a_cons e_str (a_cons e_str (a_cons e_str (a_cons e_str (a_cons e_str (a_cons e_str (a_cons e_str (a_cons e_str (a_cons e_str (a_cons e_str (a_cons e_str (a_cons e_str a_nil))))))))))))))))))) (g_name 1 scN))
    (s_cons (s_asg (sl := [1]) (e_op op_addAll oAdd_ok (e_var 1) (e_val (f_lst (a_cons e_str (a_cons e_str (a_cons e_str (a_cons e_str (a_cons e_str (a_cons e_str (a_cons e_str (a_cons e_str (a_cons e_str (a_cons e_str (a_cons e_str (a_cons e_str (a_cons e_str a_nil)))))))))))))))) (g_name 1 scN))
    (s_cons (s_asg (sl := [2]) (e_new (f_lst (a_cons e_str (a_cons e_str (a_cons e_str (a_cons e_str (a_cons e_str (a_cons e_str (a_cons e_str (a_cons e_str (a_cons (e_op op_mulSA oMulS_ok e_str e_int) (a_cons (e_op op_mulSA oMulS_ok e_str e_int) (a_cons (e_op op_addAll oAdd_ok (e_op op_mulSA oMulS_ok e_str e_int) e_str) a_nil))))))))))))) (g_name 2 scN))
    (s_cons (s_asg (sl := [2]) (e_new (f_op op_cat pCat_ok (e_var 2) (e_val (f_lst (a_cons (e_op op_addAll oAdd_ok e_str (e_op op_mulSA oMulS_ok e_str e_int)) (a_cons e_str (a_cons e_str (a_cons e_str (a_cons e_str (a_cons e_str (a_cons e_str (a_cons e_str (a_cons e_str (a_cons e_str (a_cons e_str (a_cons e_str a_nil)))))))))))))))) (g_name 2 scN))
    (s_cons (s_ex (e_meth (T := .lst) mt_append mAppend_ok PySem.F.plainAttrs_list PySem.F.slot_list_append PySem.F.type_list_append (e_var 2) (a_cons (e_op op_addAll oAdd_ok (e_op op_addAll oAdd_ok (e_op op_mulSA oMulS_ok e_str e_int) e_str) (e_op op_mulSA oMulS_ok e_str e_int)) a_nil)))
    (s_cons (s_asg (sl := [1]) (e_op op_addAll oAdd_ok (e_var 1) (e_val (f_lc (own := [(("turn" : Str), 3)]) (sl := [3]) rfl scN (i_range1 rfl g_range (a_cons e_int a_nil)) rfl (fun _ _ _ _ _ => (g_name 3 scN)) (fun _ _ _ _ _ => ts_nil) (fun _ _ _ _ _ => (e_op op_addAll oAdd_ok (e_call c_law_some hr hgu (by omega) rfl (a_cons (e_var 0) (a_cons (e_val (f_lst (a_cons e_str (a_cons e_str a_nil)))) a_nil))) (e_call c_law_some hr hgu (by omega) rfl (a_cons (e_var 0) (a_cons (e_call0 c_law_barred hr hgu (by omega) rfl) a_nil)))))))) (g_name 1 scN))
    (s_one (s_ret (e_call c_law_some hr hgu (by omega) rfl (a_cons (e_var 0) (a_cons (e_if (t_cmp (op_eqAll (u64 hr)) oEqA_ok (e_call c_law_take hr hgu (by omega) rfl (a_cons (e_var 0) (a_cons e_int a_nil))) e_int) (e_var 2) (e_var 1)) a_nil)))))))))))
abbrev s_law : Stmt := top 42
theorem sc_law : FnScope ["script", "bag", "turn", "text", "k", "due", "again", "gap", "heard", "odd"] ["script"] (defScope s_law) := ⟨rfl, rfl, rfl, by decide +kernel, rfl, by decide +kernel, by decide +kernel⟩
theorem ok_law (D : FnP K "law" s_law f fd) (c_law_bag : ClG P w K mg base 1 "_law_bag" 1 G_law_bag) (c_law_some : ClG P w K mg base 2 "_law_some" 2 G_law_some) (c_law_near_word : ClG P w K mg base 3 "_law_near_word" 1 G_law_near_word) (c_law_scanned : ClG P w K mg base 3 "_law_scanned" 1 G_law_scanned) (c_law_heard : ClG P w K mg base 8 "_law_heard" 1 G_law_heard) (c_law_alike : ClG P w K mg base 1 "_law_alike" 2 G_law_alike) (c_law_odd : ClG P w K mg base 3 "_law_odd" 1 G_law_odd) (g_range : mg "range" = none) (g_isinstance : mg "isinstance" = none) (g_str : mg "str" = none) (ot : OtT K ([("Nothing" : Str)] : List Str)) (gn_Nothing : mg "Nothing" = some (.ref (He.ga K "Nothing"))) : FnG P w K mg base CX0 (9) f fd ["script"] (spF K 1 (F_law)) := by
  have scN := (sc_law).nd
  have h1 : Fun K "law" "law" s_law f fd := fun_of D
  have h2 := fun hb => fn_ok (P := P) (w := w) (mg := mg) (base := base) (m := m_law) (k := 8) h1 sc_law hb
  have h3 : spF K 1 (F_law) = spF K 1 (runF 10 (m_law)) := rfl
  rw [h3]
  refine h2 ?_
  intro cdv A outer s H E hr hgu
  exact (s_cons (s_asg (sl := [1]) (e_call c_law_bag hr hgu (by omega) rfl (a_cons (e_var 0) a_nil)) (g_name 1 scN))
    (s_cons (s_for (sl := [2]) PassesOwn.never rfl (i_range1 rfl g_range (a_cons e_int a_nil)) (g_name 2 scN) (s_cons (s_asg (sl := [3]) (e_call c_law_some hr hgu (by omega) rfl (a_cons (e_var 1) (a_cons (e_val (f_lst (a_cons e_str (a_cons e_str (a_cons e_str (a_cons e_str a_nil)))))) a_nil))) (g_name 3 scN))
    (s_cons (s_for (sl := [4]) PassesOwn.never rfl (i_range1 rfl g_range (a_cons (e_call c_law_some hr hgu (by omega) rfl (a_cons (e_var 1) (a_cons (e_val (f_lst (a_cons e_int (a_cons e_int (a_cons e_int (a_cons e_int a_nil)))))) a_nil))) a_nil)) (g_name 4 scN) (s_cons (s_asg (sl := [7]) (e_call c_law_some hr hgu (by omega) rfl (a_cons (e_var 1) (a_cons (e_val (f_lst (a_cons e_str (a_cons e_str (a_cons e_str (a_cons e_str (a_cons e_str (a_cons e_str (a_cons e_str (a_cons e_str a_nil)))))))))) a_nil))) (g_name 7 scN))
    (s_one (s_asg (sl := [3]) (e_op op_addAll oAdd_ok (e_op op_addAll oAdd_ok (e_var 3) (e_call c_law_near_word hr hgu (by omega) rfl (a_cons (e_var 1) a_nil))) (e_var 7)) (g_name 3 scN)))))
    (s_cons (s_asg (sl := [3]) (e_op op_addAll oAdd_ok (e_var 3) (e_call c_law_some hr hgu (by omega) rfl (a_cons (e_var 1) (a_cons (e_val (f_lst (a_cons e_str (a_cons e_str (a_cons e_str (a_cons e_str a_nil)))))) a_nil)))) (g_name 3 scN))
    (s_cons (s_asg (sl := [5]) (e_call c_law_scanned hr hgu (by omega) rfl (a_cons (e_var 3) a_nil)) (g_name 5 scN))
    (s_one (s_for (sl := [6]) PassesOwn.never rfl (i_range1 rfl g_range (a_cons e_int a_nil)) (g_name 6 scN) (s_cons (s_asg (sl := [8]) (e_call c_law_heard hr hgu (by omega) rfl (a_cons (e_var 3) a_nil)) (g_name 8 scN))
    (s_cons (s_if (t_not (t_tru (e_call c_law_alike hr hgu (by omega) rfl (a_cons (e_var 8) (a_cons (e_var 5) a_nil))))) (s_one (s_ret e_bl)) s_nil)
    (s_one (s_if (t_cmp (op_eqAll (u64 hr)) oEqA_ok (e_sub (e_var 8) e_int) e_str) (s_cons (s_ex (e_meth (T := .lst) mt_append mAppend_ok PySem.F.plainAttrs_list PySem.F.slot_list_append PySem.F.type_list_append (e_sub (e_var 8) e_int) (a_cons e_non a_nil)))
    (s_one (s_asg (sl := [5]) (e_call c_law_scanned hr hgu (by omega) rfl (a_cons (e_var 3) a_nil)) (g_name 5 scN)))) s_nil)))))))))))
    (s_cons (s_asg (sl := [9]) (e_call c_law_some hr hgu (by omega) rfl (a_cons (e_var 1) (a_cons (e_val (f_lst (a_cons (e_call c_law_odd hr hgu (by omega) rfl (a_cons (e_var 1) a_nil)) (a_cons (e_call c_law_odd hr hgu (by omega) rfl (a_cons (e_var 1) a_nil)) (a_cons (e_oth ot (by decide) gn_Nothing rfl) a_nil))))) a_nil))) (g_name 9 scN))
    (s_one (s_ret (e_or (e_bf call_isiX (oIsiO_ok ot) rfl g_isinstance PyProof.Rows.boot_isinstance (a_cons (e_var 9) (a_cons (e_tyN rfl g_str PySem.Pv.boot_str) a_nil))) (e_one (e_call c_law_alike hr hgu (by omega) rfl (a_cons (e_call c_law_heard hr hgu (by omega) rfl (a_cons (e_var 9) a_nil)) (a_cons (e_tup (a_cons e_str (a_cons e_int a_nil))) a_nil))))))))))
end

end K06
end FW

set_option maxHeartbeats 4000000
namespace FW
namespace K06
open PySem PySem.Spec PyProof.Rows L2
def hd_dd (x : Str) (i : Nat) : He.DefD := ⟨(x, none), x, x, defArgs (top i), defBody (top i), defScope (top i), [], []⟩
def clsT (i j : Nat) : Stmt := match top i with
  | .ClassDef (body := b) .. => b.getD j (.Pass ⟨0, 0, 0, 0⟩)
  | _ => .Pass ⟨0, 0, 0, 0⟩
abbrev i_NoText : Stmt := clsT 2 0
def di_NoText : He.DefD := ⟨("NoText", some "__init__"), "__init__", "NoText.__init__", defArgs i_NoText, defBody i_NoText, defScope i_NoText, [], []⟩
abbrev i_Wrong : Stmt := clsT 4 0
def di_Wrong : He.DefD := ⟨("Wrong", some "__init__"), "__init__", "Wrong.__init__", defArgs i_Wrong, defBody i_Wrong, defScope i_Wrong, [], []⟩
def hd_fn : List He.DefD := [hd_dd "is_integer" 13, hd_dd "is_number" 14, hd_dd "run_end" 19, hd_dd "name_end" 20, hd_dd "digits_end" 21, hd_dd "number_end" 22, hd_dd "variable_end" 23, hd_dd "word_end" 24, hd_dd "line_words" 25, hd_dd "words_of" 26, hd_dd "_law_bag" 28, hd_dd "_law_take" 29, hd_dd "_law_some" 30, hd_dd "_law_alike" 31, hd_dd "_law_barred" 32, hd_dd "_law_small_signs" 33, hd_dd "_law_great_signs" 34, hd_dd "_law_figures" 35, hd_dd "_law_odd" 36, hd_dd "_law_run_from" 38, hd_dd "_law_word_at" 39, hd_dd "_law_scanned" 37, hd_dd "_law_heard" 40, hd_dd "_law_near_word" 41, hd_dd "law" 42, di_NoText, di_Wrong]
def hd_fa : List He.Fa := [.glo "is_integer", .glo "is_number", .glo "run_end", .glo "name_end", .glo "digits_end", .glo "number_end", .glo "variable_end", .glo "word_end", .glo "line_words", .glo "words_of", .glo "_law_bag", .glo "_law_take", .glo "_law_some", .glo "_law_alike", .glo "_law_barred", .glo "_law_small_signs", .glo "_law_great_signs", .glo "_law_figures", .glo "_law_odd", .glo "_law_run_from", .glo "_law_word_at", .glo "_law_scanned", .glo "_law_heard", .glo "_law_near_word", .glo "law", .glo "BARRED", .glo "NoText", .glo "Wrong", .glo "Nothing", .glo "SwornError", .free "isinstance", .free "bool", .free "int", .free "len", .free "str", .free "enumerate", .free "abs", .free "repr", .free "tuple", .free "range", .int "LOWEST" (-2147483648), .int "HIGHEST" (2147483647), .int "LENGTH" (20), .int "MOST_DIGITS" (9), .str "BEHIND" "abcdefghijklmnopqrstuvwxyzABCDEFGHIJKLMNOPQRSTUVWXYZ0123456789_", .str "SMALL" "abcdefghijklmnopqrstuvwxyz", .str "GREAT" "ABCDEFGHIJKLMNOPQRSTUVWXYZ", .str "DIGITS" "0123456789", .str "ALONE" "=<+*(){},.|:_"]
def hd_tbs : Tbs := [("BARRED", ([("module" : Str), ("use" : Str), ("give" : Str), ("kind" : Str), ("let" : Str), ("rec" : Str), ("and" : Str), ("in" : Str), ("fn" : Str), ("if" : Str), ("then" : Str), ("else" : Str), ("match" : Str), ("with" : Str), ("end" : Str), ("new" : Str), ("get" : Str), ("put" : Str), ("tell" : Str), ("true" : Str), ("false" : Str)] : List Str))]
def chk (K : PySem.W.Frag) : Bool := (hd_tbs.all fun t => tupN K t.1 t.2) && (exB K "NoText" ([("line" : Str), ("column" : Str)] : List Str) && (exB K "Wrong" ([("place" : Str)] : List Str) && (seB K (He.ga K "SwornError") && (xtB K xt_law_heard ([("NoText" : Str), ("Wrong" : Str), ("SwornError" : Str)] : List Str) && ((([("Nothing" : Str)] : List Str).all fun x => otB K (He.ga K x)))))))
abbrev hd_R : PySem.W.OpenRow := PySem.W.OpenLaw.row PySem.Challenge.rw_swornapart_k06_words_of_texts
abbrev hd_hk : PySem.W.Hook := hookC 6 hd_fa hd_fn chk
def hd_ob (s : PySem.W.SharedT) : He.AlD × Bool := obsC 6 hd_fa hd_fn chk (HandSHeadRun.getT s)
theorem hd_ob_eq (s : PySem.W.SharedT) : hd_ob s = hd_hk.obs s.abs := obsC_eq (HandSHeadRun.getT_eq s)
def hd_loose : List Str := [("is_integer" : Str), ("is_number" : Str), ("run_end" : Str), ("name_end" : Str), ("digits_end" : Str), ("number_end" : Str), ("variable_end" : Str), ("word_end" : Str), ("line_words" : Str), ("words_of" : Str), ("_law_bag" : Str), ("_law_take" : Str), ("_law_some" : Str), ("_law_alike" : Str), ("_law_barred" : Str), ("_law_small_signs" : Str), ("_law_great_signs" : Str), ("_law_figures" : Str), ("_law_odd" : Str), ("_law_run_from" : Str), ("_law_word_at" : Str), ("_law_scanned" : Str), ("_law_heard" : Str), ("_law_near_word" : Str), ("BARRED" : Str), ("LOWEST" : Str), ("HIGHEST" : Str), ("LENGTH" : Str), ("MOST_DIGITS" : Str), ("BEHIND" : Str), ("SMALL" : Str), ("GREAT" : Str), ("DIGITS" : Str), ("ALONE" : Str), ("SwornError" : Str), ("NoText" : Str), ("Nothing" : Str), ("Wrong" : Str)]
theorem hd_run (w : World) : HandSHeadRun.RunEq hd_R (PySem.W.view hd_R.prog [42]) hd_hk hd_ob 8000 hd_loose w := by
  intro os
  kernel_rfl
end K06
end FW

set_option maxHeartbeats 4000000
namespace FW
namespace K06
open PySem L2

@[simp] theorem ev_intSI {i : Int} {st : Store} : fIntS [.int i] st = some (.int i, st) := id rfl
/-! ### the bag -/
def bagO (g s p : Int) (cells : List Int) : Ob := .lst [.int g, .int s, .int p, .lst (iD cells)]
def BagOb (o : Ob) : Prop := ∃ g s p cells, o = bagO g s p cells ∧ 0 ≤ g ∧ 0 ≤ s ∧ s < 2147483647 ∧ 0 ≤ p ∧ (∀ c ∈ cells, 0 ≤ c) ∧ cells.length ≤ 63
def Bag (st : Store) (b : Nat) : Prop := ∃ o, st[b]? = some o ∧ BagOb o
theorem bag_len {st : Store} {b : Nat} (h : Bag st b) : b < st.length := by
  obtain ⟨o, h, _⟩ := h
  exact (List.getElem?_eq_some_iff.mp h).1
theorem ev_slL_from {ds : List D} {p : Int} {st : Store} (h : 0 ≤ p) : ∃ k, oSl (.lst ds) (some p) none st = some (.lst (ds.drop k), st) := by
  refine ⟨min p.toNat ds.length, ?_⟩
  show some (D.lst (cutD ds _ _), st) = _
  unfold cutD
  simp only [HT.sIx]
  rw [if_neg (by omega), List.take_of_length_le (by simp)]
theorem head_of {cells : List Int} (hc : ∀ c ∈ cells, 0 ≤ c) (k : Nat) (st : Store) (hl : cells.length ≤ 1000) : ∃ c : Int, 0 ≤ c ∧ oAdd (.lst ((iD cells).drop k)) (.lst [.int 0]) st = some (.lst ((iD cells).drop k ++ [.int 0]), st) ∧ oIx (.lst ((iD cells).drop k ++ [.int 0])) (.int 0) st = some (.int c, st) := by
  have e : oAdd (.lst ((iD cells).drop k)) (.lst [.int 0]) st = some (.lst ((iD cells).drop k ++ [.int 0]), st) := by
    show (match lstOf (.lst ((iD cells).drop k)) st, lstOf (.lst [.int 0]) st with | some a, some b => if a.length + b.length ≤ sizeLine then some (D.lst (a ++ b), st) else none | _, _ => none) = _
    simp only [lstOf]
    rw [if_pos]
    have := sizeLine_big
    simp only [List.length_drop, iD_length, List.length_singleton]
    omega
  cases q : cells.drop k with
  | nil =>
    refine ⟨0, by omega, e, ?_⟩
    rw [show (iD cells).drop k = [] by simp [iD, ← List.map_drop, q]]
    exact ev_ixL (i := 0) rfl rfl
  | cons c r =>
    refine ⟨c, hc c (List.mem_of_mem_drop (i := k) (by rw [q]; simp)), e, ?_⟩
    rw [show (iD cells).drop k = .int c :: iD r by simp [iD, ← List.map_drop, q]]
    exact ev_ixL (i := 0) rfl rfl
theorem ev_oIx_ref {b : Nat} {x : Int} {st : Store} : oIx (.ref b) (.int x) st = match seqOf (.ref b) st with
  | some ds => (match atI ds x with
    | some d => some (d, st)
    | none => none)
  | none => none := rfl
theorem bag_seq {st : Store} {b : Nat} {g s p : Int} {cells : List Int} (h : st[b]? = some (bagO g s p cells)) : seqOf (.ref b) st = some [.int g, .int s, .int p, .lst (iD cells)] := by
  simp only [seqOf, rdlOf, h, bagO]
theorem bag_mut {st : Store} {b : Nat} {g s p : Int} {cells : List Int} (h : st[b]? = some (bagO g s p cells)) : mutL (.ref b) st = some (b, [.int g, .int s, .int p, .lst (iD cells)]) := by
  simp only [mutL, h, bagO]
theorem bag_0 {st : Store} {b : Nat} {g s p : Int} {cells : List Int} (h : st[b]? = some (bagO g s p cells)) : oIx (.ref b) (.int 0) st = some (.int g, st) := by rw [ev_oIx_ref, bag_seq h] <;> rfl
theorem bag_1 {st : Store} {b : Nat} {g s p : Int} {cells : List Int} (h : st[b]? = some (bagO g s p cells)) : oIx (.ref b) (.int 1) st = some (.int s, st) := by rw [ev_oIx_ref, bag_seq h] <;> rfl
theorem bag_2 {st : Store} {b : Nat} {g s p : Int} {cells : List Int} (h : st[b]? = some (bagO g s p cells)) : oIx (.ref b) (.int 2) st = some (.int p, st) := by rw [ev_oIx_ref, bag_seq h] <;> rfl
theorem bag_3 {st : Store} {b : Nat} {g s p : Int} {cells : List Int} (h : st[b]? = some (bagO g s p cells)) : oIx (.ref b) (.int 3) st = some (.lst (iD cells), st) := by rw [ev_oIx_ref, bag_seq h] <;> rfl
theorem bag_s0 {st : Store} {b : Nat} {g s p v : Int} {cells : List Int} (h : st[b]? = some (bagO g s p cells)) : setIx (.ref b) (.int 0) (.int v) st = some (st.set b (bagO v s p cells)) := by unfold setIx; rw [bag_mut h] <;> rfl
theorem bag_s1 {st : Store} {b : Nat} {g s p v : Int} {cells : List Int} (h : st[b]? = some (bagO g s p cells)) : setIx (.ref b) (.int 1) (.int v) st = some (st.set b (bagO g v p cells)) := by unfold setIx; rw [bag_mut h] <;> rfl
theorem bag_s2 {st : Store} {b : Nat} {g s p v : Int} {cells : List Int} (h : st[b]? = some (bagO g s p cells)) : setIx (.ref b) (.int 2) (.int v) st = some (st.set b (bagO g s v cells)) := by unfold setIx; rw [bag_mut h] <;> rfl
theorem bag_g2 {st : Store} {b : Nat} {g s p : Int} {cells : List Int} (h : st[b]? = some (bagO g s p cells)) : oGetM (.ref b) (.int 2) st = some (.int p, st) := by unfold oGetM; rw [bag_mut h] <;> rfl
theorem set_set_ {st : Store} {b : Nat} {o o' : Ob} : (st.set b o).set b o' = st.set b o' := by simp
theorem ten18 : oPow (.int 10) (.int 18) [] = some (.int 1000000000000000000, []) := by rfl
theorem ev_pow {st : Store} : oPow (.int 10) (.int 18) st = some (.int 1000000000000000000, st) := by
  show (if CPow 10 18 then _ else none) = _
  rw [if_pos (by unfold CPow; decide)]
  rfl
section
variable {st : Store} {b : Nat} {g s p : Int} {cells : List Int} {m : Int} {x2 x3 x4 x5 x6 : Option D}
/-- a new cell is drawn -/
theorem take_fill (ho : st[b]? = some (bagO 0 s p cells)) (hs : 0 ≤ s) (hs2 : s < 2147483647) (p3 : 0 ≤ p) (p4 : ∀ c ∈ cells, 0 ≤ c) (p5 : cells.length ≤ 63) :
    ∃ y2 y3 g' s', m_law_take_1 [some (.ref b), some (.int m), x2, x3, x4, x5, x6] st = some (.nx [some (.ref b), some (.int m), y2, y3, x4, x5, x6], st.set b (bagO g' s' (p + 1) cells)) ∧ 0 ≤ g' ∧ 0 ≤ s' ∧ s' < 2147483647 := by
  have hb : b < st.length := (List.getElem?_eq_some_iff.mp ho).1
  obtain ⟨k, hk⟩ := ev_slL_from (ds := iD cells) (st := st) p3
  obtain ⟨c, c0, c1, c2⟩ := head_of p4 k st (by omega)
  have t1 : t_law_take_1 [some (.ref b), some (.int m), x2, x3, x4, x5, x6] st = some (.ok true, st) := by
    simp [t_law_take_1, bag_0 ho, ev_eqI]
  have a1 : m_law_take_1t1 [some (.ref b), some (.int m), x2, x3, x4, x5, x6] st = some (.nx [some (.ref b), some (.int m), some (.int c), x3, x4, x5, x6], st) := by
    simp [m_law_take_1t1, bag_3 ho, bag_2 ho, hk, c1, c2, sizeLine_eq]
  have h2 : (st.set b (bagO 0 s (p + 1) cells))[b]? = some (bagO 0 s (p + 1) cells) := ev_set_get hb
  have a2 : m_law_take_1t2 [some (.ref b), some (.int m), some (.int c), x3, x4, x5, x6] st = some (.nx [some (.ref b), some (.int m), some (.int c), x3, x4, x5, x6], st.set b (bagO 0 s (p + 1) cells)) := by
    simp [m_law_take_1t2, bag_g2 ho, fIp, bag_s2 ho]
  obtain ⟨g', hg', a3⟩ : ∃ g' : Int, 0 ≤ g' ∧ m_law_take_1t3 [some (.ref b), some (.int m), some (.int c), x3, x4, x5, x6] (st.set b (bagO 0 s (p + 1) cells)) = some (.nx [some (.ref b), some (.int m), some (.int c), x3, x4, x5, x6], st.set b (bagO g' s (p + 1) cells)) := by
    by_cases hc : 1000000000000000000 ≤ c
    · refine ⟨c, c0, ?_⟩
      unfold m_law_take_1t3
      rw [ev_if_t (st1 := st.set b (bagO 0 s (p + 1) cells)) (by simp [t_law_take_1t3, ev_pow, hc])]
      simp [b_law_take_1t3t, m_law_take_1t3t1, bag_s0 h2]
    · refine ⟨0, by omega, ?_⟩
      unfold m_law_take_1t3
      rw [ev_if_f (st1 := st.set b (bagO 0 s (p + 1) cells)) (by simp [t_law_take_1t3, ev_pow, hc])]
      simp
  have h3 : (st.set b (bagO g' s (p + 1) cells))[b]? = some (bagO g' s (p + 1) cells) := ev_set_get hb
  have a4 : m_law_take_1t4 [some (.ref b), some (.int m), some (.int c), x3, x4, x5, x6] (st.set b (bagO g' s (p + 1) cells)) = some (.nx [some (.ref b), some (.int m), some (.int c), some (.int (s * 48271 + c % 2147483647 + 7919 * (p + 1))), x4, x5, x6], st.set b (bagO g' s (p + 1) cells)) := by
    simp [m_law_take_1t4, bag_1 h3, bag_2 h3, ev_mulI, ev_modI]
  have a5 : m_law_take_1t5 [some (.ref b), some (.int m), some (.int c), some (.int (s * 48271 + c % 2147483647 + 7919 * (p + 1))), x4, x5, x6] (st.set b (bagO g' s (p + 1) cells)) = some (.nx [some (.ref b), some (.int m), some (.int c), some (.int (s * 48271 + c % 2147483647 + 7919 * (p + 1))), x4, x5, x6], st.set b (bagO g' ((s * 48271 + c % 2147483647 + 7919 * (p + 1)) % 2147483647) (p + 1) cells)) := by
    simp [m_law_take_1t5, ev_modI, bag_s1 h3]
  refine ⟨some (.int c), some (.int (s * 48271 + c % 2147483647 + 7919 * (p + 1))), g', (s * 48271 + c % 2147483647 + 7919 * (p + 1)) % 2147483647, ?_, hg', Int.emod_nonneg _ (by omega), Int.emod_lt_of_pos _ (by omega)⟩
  unfold m_law_take_1
  rw [ev_if_t t1]
  unfold b_law_take_1t
  rw [ev_sSeq a1, ev_sSeq a2, ev_sSeq a3, ev_sSeq a4, a5]
theorem take_draw (ho : st[b]? = some (bagO g s p cells)) (hg : 0 ≤ g) (hs : 0 ≤ s) (hs2 : s < 2147483647) (h0 : 0 < m) (h1 : m < 1073741824) :
    ∃ v g', sSeq m_law_take_2 (sSeq m_law_take_3 (sSeq m_law_take_4 m_law_take_5)) [some (.ref b), some (.int m), x2, x3, x4, x5, x6] st = some (.rt (.int v), st.set b (bagO g' s p cells)) ∧ 0 ≤ v ∧ v < m ∧ 0 ≤ g' := by
  have hb : b < st.length := (List.getElem?_eq_some_iff.mp ho).1
  by_cases hp : 0 < g
  · refine ⟨g % m, g / m, ?_, Int.emod_nonneg _ (by omega), Int.emod_lt_of_pos _ h0, Int.ediv_nonneg hg (by omega)⟩
    refine ev_sSeq_rt ?_
    unfold m_law_take_2
    rw [ev_if_t (st1 := st) (by simp [t_law_take_2, bag_0 ho, hp])]
    unfold b_law_take_2t
    rw [ev_sSeq (e1 := [some (.ref b), some (.int m), x2, x3, some (.int (g % m)), x5, x6]) (st1 := st) (by simp [m_law_take_2t1, bag_0 ho, ev_modI h0])]
    rw [ev_sSeq (e1 := [some (.ref b), some (.int m), x2, x3, some (.int (g % m)), x5, x6]) (st1 := st.set b (bagO (g / m) s p cells)) (by simp [m_law_take_2t2, bag_0 ho, ev_divI h0 h1, bag_s0 ho])]
    simp [m_law_take_2t3]
  · have e : g = 0 := by omega
    subst e
    refine ⟨(((s + 1) * 39373 % 1000000007) * ((s + 1) * 39373 % 1000000007) % 998244353 * 30011 % 998244353 / 7) % m, 0, ?_, Int.emod_nonneg _ (by omega), Int.emod_lt_of_pos _ h0, by omega⟩
    have same : st.set b (bagO 0 s p cells) = st := by
      apply List.ext_getElem?
      intro i
      rw [List.getElem?_set]
      split
      · rename_i hi; subst hi; first | exact ho.symm | (rw [if_pos hb, ho])
      · rfl
    rw [same]
    rw [ev_sSeq (e1 := [some (.ref b), some (.int m), x2, x3, x4, x5, x6]) (st1 := st) (by
      unfold m_law_take_2
      rw [ev_if_f (st1 := st) (by simp [t_law_take_2, bag_0 ho])]
      simp)]
    have b1 := Int.emod_nonneg ((s + 1) * 39373) (show (1000000007 : Int) ≠ 0 by omega)
    have b2 := Int.emod_lt_of_pos ((s + 1) * 39373) (show (0 : Int) < 1000000007 by omega)
    generalize hbg : (s + 1) * 39373 % 1000000007 = bg at *
    rw [ev_sSeq (e1 := [some (.ref b), some (.int m), x2, x3, x4, some (.int bg), x6]) (st1 := st) (by simp [m_law_take_3, bag_1 ho, ev_modI, ev_mulI, hbg])]
    rw [ev_sSeq (e1 := [some (.ref b), some (.int m), x2, x3, x4, some (.int bg), some (.int (bg * bg % 998244353 * 30011 % 998244353))]) (st1 := st) (by
      simp [m_law_take_4, ev_modI, ev_mulI (Or.inl ⟨by omega, by omega⟩ : -(2 ^ 64) < bg ∧ bg < 2 ^ 64 ∨ -(2 ^ 64) < bg ∧ bg < 2 ^ 64), ev_mulI])]
    simp [m_law_take_5, ev_divI, ev_modI h0]
end
theorem g_take {st : Store} {b : Nat} (h : Bag st b) {m : Int} (h0 : 0 < m) (h1 : m < 1073741824) : ∃ v o, G_law_take [.ref b, .int m] st = some (.int v, st.set b o) ∧ 0 ≤ v ∧ v < m ∧ BagOb o := by
  have hb := bag_len h
  obtain ⟨o, ho, g, s, p, cells, rfl, p0, p1, p2, p3, p4, p5⟩ := h
  by_cases hg : g = 0
  · subst hg
    obtain ⟨y2, y3, g', s', a1, a2, a3, a4⟩ := take_fill (m := m) (x2 := none) (x3 := none) (x4 := none) (x5 := none) (x6 := none) ho p1 p2 p3 p4 p5
    obtain ⟨v, g2, c1, c2, c3, c4⟩ := take_draw (x2 := y2) (x3 := y3) (x4 := none) (x5 := none) (x6 := none) (ev_set_get (o := bagO g' s' (p + 1) cells) hb) a2 a3 a4 h0 h1
    rw [List.set_set] at c1
    refine ⟨v, _, runF_rt ?_, c2, c3, g2, s', p + 1, cells, rfl, c4, a3, a4, by omega, p4, p5⟩
    unfold m_law_take
    rw [show env0 7 [.ref b, .int m] = [some (.ref b), some (.int m), none, none, none, none, none] from rfl, ev_sSeq a1]
    exact c1
  · obtain ⟨v, g2, c1, c2, c3, c4⟩ := take_draw (x2 := none) (x3 := none) (x4 := none) (x5 := none) (x6 := none) ho p0 p1 p2 h0 h1
    refine ⟨v, _, runF_rt ?_, c2, c3, g2, s, p, cells, rfl, c4, p1, p2, p3, p4, p5⟩
    unfold m_law_take
    rw [show env0 7 [.ref b, .int m] = [some (.ref b), some (.int m), none, none, none, none, none] from rfl]
    rw [ev_sSeq (e1 := [some (.ref b), some (.int m), none, none, none, none, none]) (st1 := st) (by
      unfold m_law_take_1
      rw [ev_if_f (st1 := st) (by simp [t_law_take_1, bag_0 ho, ev_eqI, hg])]
      simp)]
    exact c1
theorem fLen_seq {d : D} {ds : List D} {st : Store} (h : seqOf d st = some ds) : fLen [d] st = some (.int ds.length, st) := by
  cases d with
  | str z => cases h
  | _ => simp only [fLen, h]
theorem oIx_seq {d v : D} {ds : List D} {x : Int} {i : Nat} {st : Store} (h : seqOf d st = some ds) (hx : x = (i : Int)) (hv : ds[i]? = some v) : oIx d (.int x) st = some (v, st) := by
  subst hx
  cases d with
  | str z => cases h
  | _ => simp only [oIx, h, atI_nat, hv]
theorem g_some {st : Store} {b : Nat} (h : Bag st b) {things : D} {ds : List D} (h0 : seqOf things st = some ds) (hq : ∀ o, BagOb o → seqOf things (st.set b o) = some ds) (hl : 0 < ds.length) (hl2 : ds.length < 100000) :
    ∃ v o, v ∈ ds ∧ G_law_some [.ref b, things] st = some (v, st.set b o) ∧ BagOb o := by
  obtain ⟨i, o, h1, h2, h3, h4⟩ := g_take h (m := (ds.length : Int)) (by omega) (by omega)
  obtain ⟨v, hv⟩ : ∃ v, ds[i.toNat]? = some v := ⟨ds[i.toNat]'(by omega), by simp⟩
  refine ⟨v, o, List.mem_of_getElem? hv, runF_rt ?_, h4⟩
  simp [m_law_some, m_law_some_1, env0, fLen_seq h0, h1, oIx_seq (hq o h4) (show i = (i.toNat : Int) by omega) hv]
theorem seqOf_lst {ds : List D} {st : Store} : seqOf (.lst ds) st = some ds := rfl
/-- of a list written out -/
theorem g_someL {st : Store} {b : Nat} (h : Bag st b) {ds : List D} (hl : 0 < ds.length) (hl2 : ds.length < 100000) : ∃ v o, v ∈ ds ∧ G_law_some [.ref b, .lst ds] st = some (v, st.set b o) ∧ BagOb o :=
  g_some h seqOf_lst (fun _ _ => seqOf_lst) hl hl2
theorem Bag.set {st : Store} {b : Nat} {o : Ob} (h : Bag st b) (ho : BagOb o) : Bag (st.set b o) b := ⟨o, ev_set_get (bag_len h), ho⟩
/-- the bag is made -/
theorem iD_take {ns : List Int} {k : Nat} : (iD ns).take k = iD (ns.take k) := by simp [iD, List.map_take]
theorem g_law_bag {script : List Int} {st : Store} {n : Nat} (hs : st[n]? = some (.flst (iD script))) : ∃ o, G_law_bag [.ref n] st = some (.ref st.length, st ++ [o]) ∧ BagOb o := by
  have cut : cutD (iD script) none (some 63) = iD (script.take 63) := by
    unfold cutD
    have e1 : HT.sIx (iD script).length 0 none = 0 := rfl
    have e2 : HT.sIx (iD script).length (iD script).length (some 63) = min 63 script.length := by
      rw [show ((63 : Int)) = ((63 : Nat) : Int) from rfl, HT.sIx_nat]
      simp
    rw [e1, e2, List.drop_zero, Nat.sub_zero, iD_take]
    congr 1
    rcases Nat.le_total 63 script.length with h | h
    · rw [Nat.min_eq_left h]
    · rw [Nat.min_eq_right h, List.take_of_length_le (Nat.le_refl _), List.take_of_length_le h]
  have sl : oSl (.ref n) none (some 63) st = some (.lst (iD (script.take 63)), st) := by
    show (match rdlOf (.ref n) st with | some ds => some (D.lst (cutD ds none (some 63)), st) | none => none) = _
    simp only [rdlOf, hs, cut]
  have lc : ∀ e : Env, e.length = 2 → lcL ⟨iD (script.take 63), []⟩ (gN 1) xYes (xN fAbs (aC (xV 1) aN)) e (iD (script.take 63)) [] st = some (.ok (.lst (iD ((script.take 63).map fun i => if i < 0 then -i else i))), st) := by
    intro e he
    rw [lcL_map hold_none (iD (script.take 63)) [] (fun d => match d with | .int i => .int (if i < 0 then -i else i) | d => d) (fun d => e.set 1 (some d))]
    · simp [iD, Function.comp_def]
    · intro d hd
      simp only [iD, List.mem_map] at hd
      obtain ⟨i, _, rfl⟩ := hd
      refine ⟨rfl, ?_⟩
      have g : (e.set 1 (some (D.int i)))[1]? = some (some (D.int i)) := by simp [he]
      simp [ev_xV g, fAbs]
    · have := sizeLine_big
      simp only [List.length_nil, iD_length, List.length_take]
      omega
  refine ⟨bagO 0 1234567891 0 ((script.take 63).map fun i => if i < 0 then -i else i), runF_rt ?_, 0, 1234567891, 0, _, rfl, by omega, by omega, by omega, by omega, ?_, ?_⟩
  · simp [m_law_bag, m_law_bag_1, env0, ev_xLc, sl, itV, wipeE, lc, sizeLine_eq, bagO]
  · intro c hc
    simp only [List.mem_map] at hc
    obtain ⟨i, _, rfl⟩ := hc
    split <;> omega
  · simp only [List.length_map, List.length_take]; omega
end K06
end FW

set_option maxHeartbeats 4000000
namespace FW
open PySem L2

/-! ### rules for words, tuples, truths -/
section
variable {st : Store} {a b c : D} {r : List D}
@[simp] theorem ev_ix0 : oIx (.tup (a :: r)) (.int 0) st = some (a, st) := ev_ixT (i := 0) rfl rfl
@[simp] theorem ev_ix1 : oIx (.tup (a :: b :: r)) (.int 1) st = some (b, st) := ev_ixT (i := 1) rfl rfl
@[simp] theorem ev_ix2 : oIx (.tup (a :: b :: c :: r)) (.int 2) st = some (c, st) := ev_ixT (i := 2) rfl rfl
@[simp] theorem ev_eqS {a b : Str} : oEqA (.str a) (.str b) st = some (.bl (decide (a = b)), st) := id rfl
@[simp] theorem ev_neS {a b : Str} : oNeA (.str a) (.str b) st = some (.bl (!decide (a = b)), st) := id rfl
theorem sh_bl {b : Bool} : SeqAt.shaped (.bool b) = true := by simp [SeqAt.shaped, PyData.canLay0, PyData.depth]
@[simp] theorem ev_eqB {i j : Bool} : oEqA (.bl i) (.bl j) st = some (.bl (i == j), st) := by
  show oData PyData.eqv _ _ _ = _
  rw [oData_of (.bl i) (.bl j) sh_bl sh_bl]
  simp [PyData.eqv]
@[simp] theorem ev_neB {i j : Bool} : oNeA (.bl i) (.bl j) st = some (.bl (!(i == j)), st) := by
  show oData (fun p q => !PyData.eqv p q) _ _ _ = _
  rw [oData_of (.bl i) (.bl j) sh_bl sh_bl]
  simp [PyData.eqv]
@[simp] theorem ev_eqI' {i j : Int} : oEqA (.int i) (.int j) st = some (.bl (i == j), st) := ev_eqI
@[simp] theorem ev_isN : oIs .non .non st = some (.bl true, st) := id rfl
@[simp] theorem ev_isT : oIs (.tup r) .non st = some (.bl false, st) := id rfl
@[simp] theorem ev_isL : oIs (.lst r) .non st = some (.bl false, st) := id rfl
@[simp] theorem ev_isD {s : List D} : oIs (.dct r s) .non st = some (.bl false, st) := id rfl
@[simp] theorem ev_isR {n : Nat} : oIs (.ref n) .non st = some (.bl false, st) := id rfl
@[simp] theorem ev_notN : oIsNot .non .non st = some (.bl false, st) := id rfl
@[simp] theorem ev_notT : oIsNot (.tup r) .non st = some (.bl true, st) := id rfl
@[simp] theorem ev_notL : oIsNot (.lst r) .non st = some (.bl true, st) := id rfl
@[simp] theorem ev_notD {s : List D} : oIsNot (.dct r s) .non st = some (.bl true, st) := id rfl
@[simp] theorem ev_in2 {x y z : Str} : oIn false (.str x) (.tup [.str y, .str z]) st = some (.bl (decide (y = x) || decide (z = x)), st) := by
  simp [oIn, flatD, seqOf, flatsD, flatV, inV, eqV]; rfl
@[simp] theorem ev_in3 {x y z w : Str} : oIn false (.str x) (.tup [.str y, .str z, .str w]) st = some (.bl (decide (y = x) || decide (z = x) || decide (w = x)), st) := by
  simp [oIn, flatD, seqOf, flatsD, flatV, inV, eqV, Bool.or_assoc]; rfl
@[simp] theorem ev_lenT : fLen [.tup r] st = some (.int r.length, st) := K06.fLen_seq rfl
@[simp] theorem ev_lenL : fLen [.lst r] st = some (.int r.length, st) := K06.fLen_seq rfl
@[simp] theorem ev_tupL : fTuple [.lst r] st = some (.tup r, st) := id rfl
@[simp] theorem ev_tupTT : fTuple [.tup r] st = some (.tup r, st) := id rfl
@[simp] theorem ev_allL {bs : List Bool} : fAll [.lst (bs.map D.bl)] st = some (.bl (bs.all id), st) := by
  have e : ∀ bs : List Bool, blsD (bs.map D.bl) = some bs := fun bs => by
    induction bs with
    | nil => rfl
    | cons b bs ih => simp only [List.map_cons, blsD, ih, Option.map_some]
  simp [fAll, rdlOf, e]
@[simp] theorem ev_listL : oListB [.tup r] st = some (.lst r) := id rfl
@[simp] theorem ev_zipL {xs ys : List D} {m : M (List D)} {e : Env} {st1 : Store} (h : m e st = some (.ok [.tup xs, .tup ys], st1)) : fZipL m e st = some (.ok (.lst (List.zipWith (fun x y => D.ztp [x, y]) xs ys)), st1) := by simp [fZipL, h]
end
end FW

set_option maxHeartbeats 4000000
namespace FW
open PySem L2
/-- a comprehension whose elements change the store -/
theorem lcE {α β γ : Type} {it : Itm} {g : MG} {el : M D} {e : Env} {I : Store → Prop} {dF : α → D} {hD : β → D} {ψ : α → γ} {φ : β → γ} {P : β → Prop} (hh : ∀ st, I st → it.hold st) : ∀ (xs : List α) (acc : List D) (st : Store), I st → (∀ x ∈ xs, ∀ st, I st → ∃ e1 y st', g (dF x) e st = some (e1, st) ∧ el e1 st = some (.ok (hD y), st') ∧ I st' ∧ φ y = ψ x ∧ P y) → acc.length + xs.length ≤ sizeLine →
    ∃ (ys : List β) (st' : Store), lcL it g xYes el e (xs.map dF) acc st = some (.ok (.lst (acc ++ ys.map hD)), st') ∧ I st' ∧ ys.map φ = xs.map ψ ∧ ∀ y ∈ ys, P y
  | [], acc, st, hi, _, _ => ⟨[], st, by rw [List.map_nil, lcL, if_pos (hh st hi)]; simp, hi, rfl, by simp⟩
  | x :: xs, acc, st, hi, h, hl => by
    obtain ⟨e1, y, st1, h1, h2, h3, h4, h5⟩ := h x (by simp) st hi
    simp only [List.length_cons] at hl
    obtain ⟨ys, st', i1, i2, i3, i4⟩ := lcE (ψ := ψ) (φ := φ) (P := P) hh xs (acc ++ [hD y]) st1 h3 (fun z hz => h z (List.mem_cons_of_mem _ hz)) (by simp only [List.length_append, List.length_singleton]; omega)
    refine ⟨y :: ys, st', ?_, i2, by rw [List.map_cons, List.map_cons, h4, i3], fun z hz => ?_⟩
    · rw [List.map_cons, lcL, if_pos (hh st hi), h1]
      simp only [ev_xYes, h2]
      rw [if_pos (by omega), i1]
      simp
    · rcases List.mem_cons.mp hz with e | m
      · rw [e]; exact h5
      · exact i4 z m
theorem ev_lcE {α β γ : Type} {vs : List Nat} {mi : M Itm} {g : MG} {el : M D} {e : Env} {I : Store → Prop} {dF : α → D} {hD : β → D} (ψ : α → γ) (φ : β → γ) (P : β → Prop) {xs : List α} {st st1 : Store} (hi : mi e st = some (.ok ⟨xs.map dF, []⟩, st1)) (h0 : I st1) (h : ∀ x ∈ xs, ∀ st, I st → ∃ e1 y st', g (dF x) (wipeE e vs) st = some (e1, st) ∧ el e1 st = some (.ok (hD y), st') ∧ I st' ∧ φ y = ψ x ∧ P y) (hl : xs.length ≤ sizeLine) :
    ∃ (ys : List β) (st' : Store), xLc vs mi g xYes el e st = some (.ok (.lst (ys.map hD)), st') ∧ I st' ∧ ys.map φ = xs.map ψ ∧ ∀ y ∈ ys, P y := by
  obtain ⟨ys, st', i1, i2, i3, i4⟩ := lcE (it := ⟨xs.map dF, []⟩) (ψ := ψ) (φ := φ) (P := P) (fun _ _ => hold_none) xs [] st1 h0 h (by simpa using hl)
  refine ⟨ys, st', ?_, i2, i3, i4⟩
  rw [ev_xLc, hi, ev_bnd_ok]
  simpa using i1
namespace K06
/-- only the bag has changed -/
def BI (st : Store) (b : Nat) (st' : Store) : Prop := ∃ o, BagOb o ∧ st' = st.set b o
theorem BI.bag {st st' : Store} {b : Nat} (hb : Bag st b) (h : BI st b st') : Bag st' b := by
  obtain ⟨o, ho, rfl⟩ := h
  exact hb.set ho
theorem BI.trans {st st1 st2 : Store} {b : Nat} (h : BI st b st1) (h2 : BI st1 b st2) : BI st b st2 := by
  obtain ⟨o, ho, rfl⟩ := h
  obtain ⟨o2, ho2, rfl⟩ := h2
  exact ⟨o2, ho2, by rw [List.set_set]⟩
theorem BI.of {st : Store} {b : Nat} {o : Ob} (h : BagOb o) : BI st b (st.set b o) := ⟨o, h, rfl⟩
theorem take_bi {st : Store} {b : Nat} (h : Bag st b) {m : Int} (h0 : 0 < m) (h1 : m < 1073741824) : ∃ v : Nat, ∃ st', G_law_take [.ref b, .int m] st = some (.int v, st') ∧ (v : Int) < m ∧ BI st b st' := by
  obtain ⟨v, o, e, v0, v1, ho⟩ := g_take h h0 h1
  exact ⟨v.toNat, _, by rw [e, show ((v.toNat : Nat) : Int) = v by omega], by omega, .of ho⟩
theorem some_bi {st : Store} {b : Nat} (h : Bag st b) {ds : List D} (hl : 0 < ds.length) (hl2 : ds.length < 100000) : ∃ v st', v ∈ ds ∧ G_law_some [.ref b, .lst ds] st = some (v, st') ∧ BI st b st' := by
  obtain ⟨v, o, m, e, ho⟩ := g_someL h hl hl2
  exact ⟨v, _, m, e, .of ho⟩
theorem i62_small {x : Int} (h1 : 0 ≤ x) (h2 : x < 1000000) : i62 x = true := by
  have a : decide (-(2 ^ 62) ≤ x) = true := decide_eq_true (by omega)
  have b : decide (x < 2 ^ 62) = true := decide_eq_true (by omega)
  unfold i62
  rw [a, b]
  rfl
theorem rngD_nat (n : Nat) : rngD 0 n = (List.range n).map fun (i : Nat) => D.int (i : Int) := by
  unfold rngD
  refine List.map_congr_left fun i _ => ?_
  rw [Int.zero_add]
theorem rng1_nat {n : Nat} (h : n < 1000) {st : Store} : rng1 [.int (n : Int)] st = some ⟨rngD 0 n, []⟩ := by
  have hi := i62_small (x := (n : Int)) (by omega) (by omega)
  unfold rng1
  dsimp only
  rw [if_pos hi, Int.toNat_natCast]
theorem rng_nat {n : Nat} (h : n < 1000) {st : Store} {e : Env} {m : M (List D)} {st1 : Store} (hm : m e st = some (.ok [.int n], st1)) : iOf rng1 m e st = some (.ok ⟨(List.range n).map fun (i : Nat) => D.int (i : Int), []⟩, st1) := by
  have r := rng1_nat h (st := st1)
  rw [rngD_nat] at r
  unfold iOf
  rw [ev_xbnd, hm, ev_bnd_ok, r]
theorem sl_take {ds : List D} {n : Nat} {st : Store} : oSl (.lst ds) none (some (n : Int)) st = some (.lst (ds.take n), st) := by
  show some (D.lst (cutD ds none (some (n : Int))), st) = _
  congr 2
  unfold cutD
  rw [HT.sIx_nat]
  have e1 : HT.sIx ds.length 0 none = 0 := rfl
  rw [e1, List.drop_zero, Nat.sub_zero]
  rcases Nat.le_total n ds.length with h | h
  · rw [Nat.min_eq_left h]
  · rw [Nat.min_eq_right h, List.take_of_length_le (Nat.le_refl _), List.take_of_length_le h]
end K06
end FW

set_option maxHeartbeats 4000000
namespace FW
namespace K06
open PySem PySem.Spec L2

/-! ### texts as lists of signs -/
def tx (l : List Nat) : Str := ⟨l.toArray⟩
@[simp] theorem tx_list (l : List Nat) : (tx l).cps.toList = l := rfl
theorem tx_len (l : List Nat) : (tx l).length = l.length := by show l.toArray.size = _; simp
theorem tx_inj {a b : List Nat} (h : tx a = tx b) : a = b := by
  have := congrArg (fun z : Str => z.cps.toList) h
  simpa using this
theorem tx_eq {a b : List Nat} : tx a = tx b ↔ a = b := ⟨tx_inj, fun h => by rw [h]⟩
theorem tx_of (x : Str) : tx x.cps.toList = x := by obtain ⟨a⟩ := x; rfl
theorem tx_cat (a b : List Nat) : tx a ++ tx b = tx (a ++ b) := by
  apply Str.ext'
  show (tx a).cps ++ (tx b).cps = _
  simp [tx]
section
variable {l : List Nat} {st : Store}
theorem len_tx (h : l.length ≤ 2000) : fLen [.str (tx l)] st = some (.int l.length, st) := by
  show (if (tx l).length ≤ sizeLine then some (D.int (tx l).length, st) else none) = _
  have := sizeLine_big
  rw [tx_len, if_pos (by omega)]
theorem ix_tx {i c : Nat} (h : l.length ≤ 2000) (hi : l[i]? = some c) : oIx (.str (tx l)) (.int (i : Int)) st = some (.str (tx [c]), st) := by
  show (if (tx l).length ≤ sizeLine then (match atI (tx l).cps.toList (i : Int) with
    | some c => some (D.str ⟨#[c]⟩, st)
    | none => none) else none) = _
  have := sizeLine_big
  rw [tx_len, if_pos (by omega), tx_list, atI_nat, hi]
  rfl
theorem sl_tx {a b : Nat} (h : l.length ≤ 2000) : oSl (.str (tx l)) (some (a : Int)) (some (b : Int)) st = some (.str (tx ((l.drop a).take (b - a))), st) := by
  show (if (tx l).length ≤ sizeLine then some (D.str (cutS (tx l) (some (a : Int)) (some (b : Int))), st) else none) = _
  have := sizeLine_big
  rw [tx_len, if_pos (by omega)]
  unfold cutS
  rw [HT.sIx_nat, HT.sIx_nat, tx_len, tx_list]
  congr 3
  show tx _ = tx _
  congr 1
  rcases Nat.le_total a l.length with ha | ha
  · rw [Nat.min_eq_left ha]
    rcases Nat.le_total b l.length with hb | hb
    · rw [Nat.min_eq_left hb]
    · rw [Nat.min_eq_right hb, List.take_of_length_le (by simp), List.take_of_length_le (by simp; omega)]
  · rw [Nat.min_eq_right ha, List.drop_eq_nil_of_le (Nat.le_refl _), List.drop_eq_nil_of_le ha]
    simp
theorem add_tx {a b : List Nat} (h : a.length + b.length ≤ 5000) : oAdd (.str (tx a)) (.str (tx b)) st = some (.str (tx (a ++ b)), st) := by
  show (if (tx a).length + (tx b).length ≤ sizeLine then some (D.str (tx a ++ tx b), st) else none) = _
  have := sizeLine_big
  rw [tx_len, tx_len, if_pos (by omega), tx_cat]
theorem in_tx {c : Nat} {z : Str} : oInS1 false (.str (tx [c])) (.str z) st = some (.bl (decide (c ∈ z.cps.toList)), st) := rfl
theorem nin_tx {c : Nat} {z : Str} : oInS1 true (.str (tx [c])) (.str z) st = some (.bl (!decide (c ∈ z.cps.toList)), st) := rfl
theorem nin_nil {z : Str} : oInS1 true (.str (tx [])) (.str z) st = some (.bl false, st) := rfl
end
/-! ### kinds of signs -/
def isS (c : Nat) : Bool := decide (97 ≤ c) && decide (c ≤ 122)
def isG (c : Nat) : Bool := decide (65 ≤ c) && decide (c ≤ 90)
def isL (c : Nat) : Bool := isS c || isG c
def isF (c : Nat) : Bool := decide (48 ≤ c) && decide (c ≤ 57)
def isB (c : Nat) : Bool := isL c || isF c || decide (c = 95)
theorem sS : ("abcdefghijklmnopqrstuvwxyz" : Str) = tx [97,98,99,100,101,102,103,104,105,106,107,108,109,110,111,112,113,114,115,116,117,118,119,120,121,122] := by decide +kernel
theorem sG : ("ABCDEFGHIJKLMNOPQRSTUVWXYZ" : Str) = tx [65,66,67,68,69,70,71,72,73,74,75,76,77,78,79,80,81,82,83,84,85,86,87,88,89,90] := by decide +kernel
theorem sF : ("0123456789" : Str) = tx [48,49,50,51,52,53,54,55,56,57] := by decide +kernel
theorem m_small {c : Nat} : decide (c ∈ ("abcdefghijklmnopqrstuvwxyz" : Str).cps.toList) = isS c := by
  rw [sS, tx_list]
  unfold isS
  rw [Bool.eq_iff_iff]
  simp only [List.mem_cons, List.not_mem_nil, or_false, decide_eq_true_eq, Bool.and_eq_true]
  omega
theorem m_great {c : Nat} : decide (c ∈ ("ABCDEFGHIJKLMNOPQRSTUVWXYZ" : Str).cps.toList) = isG c := by
  rw [sG, tx_list]
  unfold isG
  rw [Bool.eq_iff_iff]
  simp only [List.mem_cons, List.not_mem_nil, or_false, decide_eq_true_eq, Bool.and_eq_true]
  omega
theorem m_fig {c : Nat} : decide (c ∈ ("0123456789" : Str).cps.toList) = isF c := by
  rw [sF, tx_list]
  unfold isF
  rw [Bool.eq_iff_iff]
  simp only [List.mem_cons, List.not_mem_nil, or_false, decide_eq_true_eq, Bool.and_eq_true]
  omega
/-- letters, as the program and the law join them -/
def sLt : Str := ("abcdefghijklmnopqrstuvwxyz" : Str) ++ ("ABCDEFGHIJKLMNOPQRSTUVWXYZ" : Str)
def sBh : Str := sLt ++ ("0123456789" : Str) ++ ("_" : Str)
theorem sLt_eq : sLt = tx [97,98,99,100,101,102,103,104,105,106,107,108,109,110,111,112,113,114,115,116,117,118,119,120,121,122,65,66,67,68,69,70,71,72,73,74,75,76,77,78,79,80,81,82,83,84,85,86,87,88,89,90] := by decide +kernel
theorem sBh_eq : sBh = tx [97,98,99,100,101,102,103,104,105,106,107,108,109,110,111,112,113,114,115,116,117,118,119,120,121,122,65,66,67,68,69,70,71,72,73,74,75,76,77,78,79,80,81,82,83,84,85,86,87,88,89,90,48,49,50,51,52,53,54,55,56,57,95] := by decide +kernel
theorem sBh_eq2 : ("abcdefghijklmnopqrstuvwxyzABCDEFGHIJKLMNOPQRSTUVWXYZ0123456789_" : Str) = sBh := by decide +kernel
theorem m_let {c : Nat} : decide (c ∈ sLt.cps.toList) = isL c := by
  rw [sLt_eq, tx_list]
  unfold isL isS isG
  rw [Bool.eq_iff_iff]
  simp only [List.mem_cons, List.not_mem_nil, or_false, decide_eq_true_eq, Bool.and_eq_true, Bool.or_eq_true]
  omega
theorem m_beh {c : Nat} : decide (c ∈ sBh.cps.toList) = isB c := by
  rw [sBh_eq, tx_list]
  unfold isB isL isS isG isF
  rw [Bool.eq_iff_iff]
  simp only [List.mem_cons, List.not_mem_nil, or_false, decide_eq_true_eq, Bool.and_eq_true, Bool.or_eq_true]
  omega
theorem ev_lt {st : Store} : oAdd (.str "abcdefghijklmnopqrstuvwxyz") (.str "ABCDEFGHIJKLMNOPQRSTUVWXYZ") st = some (.str sLt, st) := by
  show (if ("abcdefghijklmnopqrstuvwxyz" : Str).length + ("ABCDEFGHIJKLMNOPQRSTUVWXYZ" : Str).length ≤ sizeLine then some (D.str sLt, st) else none) = _
  have := sizeLine_big
  rw [sS, sG, tx_len, tx_len, if_pos (by simp; omega)]
/-! ### runs of signs -/
theorem tw_take {p : Nat → Bool} : ∀ s : List Nat, s.takeWhile p = s.take (s.takeWhile p).length
  | [] => rfl
  | c :: s => by
    rw [List.takeWhile_cons]
    split
    · rw [List.length_cons, List.take_succ_cons, ← tw_take s]
    · rfl
theorem tw_le {p : Nat → Bool} : ∀ s : List Nat, (s.takeWhile p).length ≤ s.length
  | [] => Nat.le_refl _
  | c :: s => by
    rw [List.takeWhile_cons]
    split
    · simp only [List.length_cons]; have := tw_le (p := p) s; omega
    · simp
theorem tw_all {p : Nat → Bool} : ∀ s : List Nat, ∀ c ∈ s.takeWhile p, p c = true
  | [], _, h => by simp at h
  | d :: s, c, h => by
    rw [List.takeWhile_cons] at h
    split at h
    · rename_i hd
      rcases List.mem_cons.mp h with e | h
      · rw [e]; exact hd
      · exact tw_all s c h
    · simp at h
/-- what stands behind the run -/
theorem tw_next {p : Nat → Bool} : ∀ {s : List Nat} {d : Nat}, s[(s.takeWhile p).length]? = some d → p d = false
  | [], _, h => by simp at h
  | c :: s, d, h => by
    rw [List.takeWhile_cons] at h
    split at h
    · rw [List.length_cons, List.getElem?_cons_succ] at h
      exact tw_next h
    · rename_i hc
      rw [List.length_nil, List.getElem?_cons_zero] at h
      cases h
      simpa using hc
/-- a run ends where a line ends -/
theorem tw_loc {p : Nat → Bool} (h10 : p 10 = false) {rest : List Nat} (hr : rest = [] ∨ ∃ b, rest = 10 :: b) : ∀ s : List Nat, (s ++ rest).takeWhile p = s.takeWhile p
  | [] => by
    rcases hr with rfl | ⟨b, rfl⟩
    · rfl
    · rw [List.nil_append, List.takeWhile_cons, h10]; rfl
  | c :: s => by
    rw [List.cons_append, List.takeWhile_cons, List.takeWhile_cons, tw_loc h10 hr s]
section
variable {l : List Nat} {st : Store} {z : Str} {p : Nat → Bool}
theorem drop_cons {l : List Nat} {i c : Nat} (h : l[i]? = some c) : l.drop i = c :: l.drop (i + 1) := by
  obtain ⟨hi, e⟩ := List.getElem?_eq_some_iff.mp h
  rw [← e]
  exact List.drop_eq_getElem_cons hi
theorem drop_some {l s : List Nat} {i c : Nat} (h : l.drop i = c :: s) : l[i]? = some c ∧ l.drop (i + 1) = s := by
  have h1 : (l.drop i)[0]? = some c := by rw [h]; rfl
  rw [List.getElem?_drop, Nat.add_zero] at h1
  refine ⟨h1, ?_⟩
  rw [drop_cons h1] at h
  exact (List.cons.inj h).2
/-- while column < len(line) and line[column] in signs -/
theorem run_loop (hl : l.length ≤ 2000) (hp : ∀ c, decide (c ∈ z.cps.toList) = p c) : ∀ (k i : Nat), k = l.length - i → i ≤ l.length →
    WhR t_run_end_1 b_run_end_1b [some (.str (tx l)), some (.int (i : Int)), some (.str z)] st (.nx [some (.str (tx l)), some (.int ((i + ((l.drop i).takeWhile p).length : Nat) : Int)), some (.str z)], st)
  | k, i, hk, hi => by
    cases q : l[i]? with
    | none =>
      have hd : l.drop i = [] := List.drop_eq_nil_of_le (List.getElem?_eq_none_iff.mp q)
      have : ¬ ((i : Int) < (l.length : Int)) := by have := List.getElem?_eq_none_iff.mp q; omega
      rw [hd]
      refine WhR.stop ?_
      unfold t_run_end_1
      rw [ev_and_f (st1 := st) (by simp [oLt, len_tx hl, this])]
    | some c =>
      have hlt : i < l.length := (List.getElem?_eq_some_iff.mp q).1
      have t : t_run_end_1 [some (.str (tx l)), some (.int (i : Int)), some (.str z)] st = some (.ok (p c), st) := by
        unfold t_run_end_1
        rw [ev_and_t (st1 := st) (by simp [oLt, len_tx hl, hlt])]
        simp [ix_tx hl q, in_tx, ← hp]
      rw [drop_cons q, List.takeWhile_cons]
      cases hc : p c with
      | false =>
        rw [if_neg (by simp)]
        rw [hc] at t
        exact WhR.stop t
      | true =>
        rw [if_pos rfl]
        rw [hc] at t
        have ih := run_loop hl hp (l.length - (i + 1)) (i + 1) rfl (by omega)
        refine WhR.next t (e2 := [some (.str (tx l)), some (.int ((i + 1 : Nat) : Int)), some (.str z)]) (st2 := st) ?_ ?_
        · simp [b_run_end_1b, m_run_end_1b1, ev_sAug, fIp]
        · rw [List.length_cons, show i + (((l.drop (i + 1)).takeWhile p).length + 1) = i + 1 + ((l.drop (i + 1)).takeWhile p).length by omega]
          exact ih
  termination_by k => k
  decreasing_by omega
theorem g_run_end (hl : l.length ≤ 2000) (hp : ∀ c, decide (c ∈ z.cps.toList) = p c) {i : Nat} (hi : i ≤ l.length) : G_run_end [.str (tx l), .int (i : Int), .str z] st = some (.int ((i + ((l.drop i).takeWhile p).length : Nat) : Int), st) := by
  refine runF_rt ?_
  unfold m_run_end
  rw [show env0 3 [D.str (tx l), .int (i : Int), .str z] = [some (.str (tx l)), some (.int (i : Int)), some (.str z)] from rfl, ev_sSeq (show m_run_end_1 _ _ = _ from ev_while (run_loop hl hp _ i rfl hi))]
  simp [m_run_end_2]
theorem run_loop2 (hl : l.length ≤ 2000) (hp : ∀ c, decide (c ∈ z.cps.toList) = p c) {a : D} : ∀ (k i : Nat), k = l.length - i → i ≤ l.length →
    WhR t_law_run_from_2 b_law_run_from_2b [some (.str (tx l)), some a, some (.str z), some (.int (i : Int))] st (.nx [some (.str (tx l)), some a, some (.str z), some (.int ((i + ((l.drop i).takeWhile p).length : Nat) : Int))], st)
  | k, i, hk, hi => by
    cases q : l[i]? with
    | none =>
      have hd : l.drop i = [] := List.drop_eq_nil_of_le (List.getElem?_eq_none_iff.mp q)
      have : ¬ ((i : Int) < (l.length : Int)) := by have := List.getElem?_eq_none_iff.mp q; omega
      rw [hd]
      refine WhR.stop ?_
      unfold t_law_run_from_2
      rw [ev_and_f (st1 := st) (by simp [oLt, len_tx hl, this])]
    | some c =>
      have hlt : i < l.length := (List.getElem?_eq_some_iff.mp q).1
      have t : t_law_run_from_2 [some (.str (tx l)), some a, some (.str z), some (.int (i : Int))] st = some (.ok (p c), st) := by
        unfold t_law_run_from_2
        rw [ev_and_t (st1 := st) (by simp [oLt, len_tx hl, hlt])]
        simp [ix_tx hl q, in_tx, ← hp]
      rw [drop_cons q, List.takeWhile_cons]
      cases hc : p c with
      | false =>
        rw [if_neg (by simp)]
        rw [hc] at t
        exact WhR.stop t
      | true =>
        rw [if_pos rfl]
        rw [hc] at t
        have ih := run_loop2 hl hp (a := a) (l.length - (i + 1)) (i + 1) rfl (by omega)
        refine WhR.next t (e2 := [some (.str (tx l)), some a, some (.str z), some (.int ((i + 1 : Nat) : Int))]) (st2 := st) ?_ ?_
        · simp [b_law_run_from_2b, m_law_run_from_2b1, ev_sAug, fIp]
        · rw [List.length_cons, show i + (((l.drop (i + 1)).takeWhile p).length + 1) = i + 1 + ((l.drop (i + 1)).takeWhile p).length by omega]
          exact ih
  termination_by k => k
  decreasing_by omega
theorem g_law_run_from (hl : l.length ≤ 2000) (hp : ∀ c, decide (c ∈ z.cps.toList) = p c) {i : Nat} (hi : i ≤ l.length) : G_law_run_from [.str (tx l), .int (i : Int), .str z] st = some (.str (tx ((l.drop i).takeWhile p)), st) := by
  refine runF_rt ?_
  unfold m_law_run_from
  rw [show env0 4 [D.str (tx l), .int (i : Int), .str z] = [some (.str (tx l)), some (.int (i : Int)), some (.str z), none] from rfl]
  rw [ev_sSeq (e1 := [some (.str (tx l)), some (.int (i : Int)), some (.str z), some (.int (i : Int))]) (st1 := st) (by simp [m_law_run_from_1]), ev_sSeq (show m_law_run_from_2 _ _ = _ from ev_while (run_loop2 hl hp _ i rfl hi))]
  simp [-Int.natCast_add, m_law_run_from_3, sl_tx hl, ← tw_take]
end
end K06
end FW

set_option maxHeartbeats 4000000
namespace FW
open PySem L2

/-! ### mirrors that may raise, worked out -/
section
variable {α β : Type} {e e1 : Env} {st st1 : Store} {x : Exn}
@[simp] theorem ev_bnd_exc {k : α → Store → Option (Res β × Store)} : bnd (some (.exc x, st)) k = some (.exc x, st) := id rfl
@[simp] theorem ev_bndS_exc {k : α → Store → Option (SR × Store)} : bndS (some (.exc x, st)) e k = some (.exc x e, st) := id rfl
theorem ev_sSeq_exc {m n : MS} (h : m e st = some (.exc x e1, st1)) : sSeq m n e st = some (.exc x e1, st1) := by unfold sSeq; rw [h]
theorem ev_sSeq_ct {m n : MS} (h : m e st = some (.ct e1, st1)) : sSeq m n e st = some (.ct e1, st1) := by unfold sSeq; rw [h]
@[simp] theorem ev_xClX {n : Nat} {F : Fn} {as : M (List D)} : xClX n F as e st = bnd (as e st) fun ds st1 => if ds.length = n then F ds st1 else none := id rfl
@[simp] theorem ev_sRaise {c : Str} {fs : List Str} {as : M (List D)} : sRaise c fs as e st = bndS (as e st) e fun ds st1 => if ds.length = fs.length then some (.exc ⟨c, fs.zip ds⟩ e, st1) else none := id rfl
@[simp] theorem ev_xTru {m : M D} : xTru m e st = bnd (m e st) fun d st1 => match truB d st1 with
  | some b => some (.ok b, st1)
  | none => none := id rfl
@[simp] theorem ev_xNot {m : M Bool} : xNot m e st = bnd (m e st) fun b st1 => some (.ok !b, st1) := id rfl
@[simp] theorem ev_xNotV {m : M D} : xNotV m e st = bnd (m e st) fun d st1 => match truB d st1 with
  | some b => some (.ok (.bl !b), st1)
  | none => none := id rfl
@[simp] theorem ev_truBl {b : Bool} : truB (.bl b) st = some b := id rfl
@[simp] theorem ev_sCont : sCont e st = some (.ct e, st) := id rfl
theorem ev_xAndV_t {a b : M D} {d : D} (h : a e st = some (.ok d, st1)) (t : truB d st1 = some true) : xAndV a b e st = b e st1 := by unfold xAndV; rw [ev_xbnd, h, ev_bnd_ok]; simp only [t]
theorem ev_xAndV_f {a b : M D} {d : D} (h : a e st = some (.ok d, st1)) (t : truB d st1 = some false) : xAndV a b e st = some (.ok d, st1) := by unfold xAndV; rw [ev_xbnd, h, ev_bnd_ok]; simp only [t]
theorem ev_xOrV_t {a b : M D} {d : D} (h : a e st = some (.ok d, st1)) (t : truB d st1 = some true) : xOrV a b e st = some (.ok d, st1) := by unfold xOrV; rw [ev_xbnd, h, ev_bnd_ok]; simp only [t]
theorem ev_xOrV_f {a b : M D} {d : D} (h : a e st = some (.ok d, st1)) (t : truB d st1 = some false) : xOrV a b e st = b e st1 := by unfold xOrV; rw [ev_xbnd, h, ev_bnd_ok]; simp only [t]
theorem runX_rt {n : Nat} {m : MS} {ds : List D} {d : D} (h : m (env0 n ds) st = some (.rt d, st1)) : runX n m ds st = some (.ok d, st1) := by unfold runX; rw [h]
theorem runX_exc {n : Nat} {m : MS} {ds : List D} (h : m (env0 n ds) st = some (.exc x e1, st1)) : runX n m ds st = some (.exc x, st1) := by unfold runX; rw [h]
theorem runX_nx {n : Nat} {m : MS} {ds : List D} (h : m (env0 n ds) st = some (.nx e1, st1)) : runX n m ds st = some (.ok .non, st1) := by unfold runX; rw [h]
/-! while, ended within -/
theorem WhR.exc {c : M Bool} {b : MS} {e2 : Env} {st2 : Store} (h : c e st = some (.ok true, st1)) (h2 : b e st1 = some (.exc x e2, st2)) : WhR c b e st (.exc x e2, st2) := by
  refine ⟨1, ?_⟩
  unfold whN
  rw [h, ev_bndS_ok, if_pos rfl, h2]
theorem WhR.rt {c : M Bool} {b : MS} {d : D} {st2 : Store} (h : c e st = some (.ok true, st1)) (h2 : b e st1 = some (.rt d, st2)) : WhR c b e st (.rt d, st2) := by
  refine ⟨1, ?_⟩
  unfold whN
  rw [h, ev_bndS_ok, if_pos rfl, h2]
theorem WhR.ct {c : M Bool} {b : MS} {e2 : Env} {st2 : Store} {o : SR × Store} (h : c e st = some (.ok true, st1)) (h2 : b e st1 = some (.ct e2, st2)) (w : WhR c b e2 st2 o) : WhR c b e st o := by
  obtain ⟨n, w⟩ := w
  refine ⟨n + 1, ?_⟩
  unfold whN
  rw [h, ev_bndS_ok, if_pos rfl, h2]
  exact w
/-! for -/
theorem ev_for_exc {it : Itm} {g : MG} {b : MS} {d : D} {ds : List D} {e2 : Env} {st2 : Store} (h : it.hold st) (h1 : g d e st = some (e1, st1)) (h2 : b e1 st1 = some (.exc x e2, st2)) : forL it g b (d :: ds) e st = some (.exc x e2, st2) := by
  rw [forL, if_pos h, h1]
  simp only [h2]
/-! try -/
theorem ev_try_rt {tbl : XTb} {m : MS} {hs : List Hn} {d : D} (h : m e st = some (.rt d, st1)) : sTry tbl m hs e st = some (.rt d, st1) := by unfold sTry; rw [h]
theorem ev_try_exc {tbl : XTb} {m : MS} {hs : List Hn} {t : Str × List Str × List Bool} {hn : Hn} {d : D} {st2 : Store} (h : m e st = some (.exc x e1, st1)) (ht : xtAt tbl x = some t) (hp : pickH t.2.2 hs = some hn) (hi : hIn hn.1 e1 = true) (hd : hn.2 x (hEnv hn.1 e1) st1 = some (.ok d, st2)) : sTry tbl m hs e st = some (.rt d, st2) := by
  unfold sTry
  rw [h]
  simp only [ht, hp]
  rw [if_pos hi]
  simp only [hd]
end
end FW

set_option maxHeartbeats 4000000
namespace FW
namespace K06
open PySem PySem.Spec L2

/-! ### a word at the head of what is left: how long it is, or what is wrong where -/
inductive W where
  | ok (n : Nat) | no (k : Nat)
def BARR : List Str := ["module", "use", "give", "kind", "let", "rec", "and", "in", "fn", "if", "then", "else", "match", "with", "end", "new", "get", "put", "tell", "true", "false"]
def nB (s : List Nat) : Nat := (s.takeWhile isB).length
def wName (s : List Nat) (g : Bool) : W :=
  if 20 < nB s then .no 0
  else if g = true ∧ s[nB s]? = some 46 ∧ (s[nB s + 1]?).any isL = true then
    if 20 < nB (s.drop (nB s + 1)) ∨ tx ((s.drop (nB s + 1)).take (nB (s.drop (nB s + 1)))) ∈ BARR then .no (nB s + 1) else .ok (nB s + 1 + nB (s.drop (nB s + 1)))
  else .ok (nB s)
def bad (f : List Nat) : Prop := f = [] ∨ (f.head? = some 48 ∧ 1 < f.length)
instance {f : List Nat} : Decidable (bad f) := by unfold bad; infer_instance
def wNum (f : List Nat) (neg : Bool) : W :=
  if bad f ∨ 10 < f.length ∨ (neg = true ∧ f.head? = some 48) ∨ 2147483647 + neg.toNat < NumText.digitsVal f then .no 0 else .ok (neg.toNat + f.length)
def wVar (f : List Nat) : W := if bad f ∨ 9 < f.length then .no 0 else .ok (1 + f.length)
def isA (c : Nat) : Bool := decide (c ∈ [61, 60, 43, 42, 40, 41, 123, 125, 44, 46, 124, 58, 95])
def wd : List Nat → W
  | [] => .no 0
  | c :: r => if isL c = true then wName (c :: r) (isG c) else if isF c = true then wNum ((c :: r).takeWhile isF) false else if c = 126 then wNum (r.takeWhile isF) true else if c = 63 then wVar (r.takeWhile isF)
    else if c = 45 then (if r.head? = some 62 then .ok 2 else .ok 1) else if isA c = true then .ok 1 else .no 0
/-- what a def of the program makes of it -/
def pW (row i : Nat) : W → Res D
  | .ok n => .ok (.int ((i + n : Nat) : Int))
  | .no k => .exc ⟨"NoText", [("line", .int (row : Int)), ("column", .int ((i + k : Nat) : Int))]⟩
/-! ### words among texts -/
theorem in_strs {x : Str} : ∀ ys : List Str, inV (.str x) (ys.map V.str) = decide (x ∈ ys)
  | [] => by simp [inV]
  | y :: ys => by
    have := in_strs (x := x) ys
    simp only [List.map_cons, inV, List.any_cons] at this ⊢
    rw [this]
    by_cases h : x = y
    · subst h; simp [eqV]
    · have h' : ¬ y = x := fun z => h z.symm
      simp [eqV, h, h']
theorem flat_strs : ∀ ys : List Str, flatsD (ys.map D.str) = some (ys.map V.str)
  | [] => rfl
  | y :: ys => by simp only [List.map_cons, flatsD, flatD, flat_strs ys]
theorem all_flat (ys : List Str) : (ys.map V.str).all flatV = true := by
  induction ys with
  | nil => rfl
  | cons y ys ih => simp only [List.map_cons, List.all_cons, ih]; rfl
theorem ev_inStrs {neg : Bool} {x : Str} {ys : List Str} {st : Store} : oIn neg (.str x) (.tup (ys.map D.str)) st = some (.bl (if neg then !decide (x ∈ ys) else decide (x ∈ ys)), st) := by
  have e : flatD (.str x) = some (.str x) := rfl
  have f : (seqOf (.tup (ys.map D.str)) st).bind flatsD = some (ys.map V.str) := flat_strs ys
  unfold oIn
  split
  · rename_i h; cases h
  · rw [e, f]
    dsimp only
    rw [if_pos ⟨rfl, all_flat ys⟩, in_strs]
theorem ev_inStrL {neg : Bool} {x : Str} {ys : List Str} {st : Store} : oIn neg (.str x) (.lst (ys.map D.str)) st = some (.bl (if neg then !decide (x ∈ ys) else decide (x ∈ ys)), st) := ev_inStrs (neg := neg) (x := x) (ys := ys) (st := st)
/-! ### the numbers of the program's model -/
theorem g_is_number {i : Int} {st : Store} : G_is_number [.int i] st = some (.bl (decide (-2147483648 ≤ i) && decide (i ≤ 2147483647)), st) := by
  have e : G_is_integer [.int i] st = some (.bl true, st) := by
    refine runF_rt ?_
    unfold m_is_integer m_is_integer_1
    rw [ev_sRet, ev_xAndV_t (st1 := st) (d := .bl true) (by simp [env0]; rfl) rfl]
    simp [env0]
    rfl
  refine runF_rt ?_
  unfold m_is_number m_is_number_1
  rw [ev_sRet, ev_xAndV_t (st1 := st) (d := .bl true) (by simp [env0, e]) rfl]
  by_cases h : -2147483648 ≤ i
  · simp [env0, xBl, xChn, h]
  · simp [env0, xBl, xChn, h]
section
variable {l : List Nat} {st : Store} {z : Str} {p : Nat → Bool}
theorem take1 (l : List Nat) (k : Nat) : (l.drop k).take 1 = (l[k]?).toList := by
  cases q : l[k]? with
  | none => rw [List.drop_eq_nil_of_le (List.getElem?_eq_none_iff.mp q)]; rfl
  | some c => rw [drop_cons q]; rfl
/-- a slice of one sign -/
theorem sl_one {a : Nat} {x y : Int} (h : l.length ≤ 2000) (hx : x = (a : Int)) (hy : y = ((a + 1 : Nat) : Int)) : oSl (.str (tx l)) (some x) (some y) st = some (.str (tx (l[a]?).toList), st) := by
  subst hx hy
  rw [sl_tx h, show a + 1 - a = 1 by omega, take1]
theorem sl_n {a b n : Nat} {x y : Int} (h : l.length ≤ 2000) (hx : x = (a : Int)) (hy : y = (b : Int)) (hn : b = a + n) : oSl (.str (tx l)) (some x) (some y) st = some (.str (tx ((l.drop a).take n)), st) := by
  subst hx hy hn
  rw [sl_tx h, show a + n - a = n by omega]
theorem ix_at {i c : Nat} {x : Int} (h : l.length ≤ 2000) (hx : x = (i : Int)) (hi : l[i]? = some c) : oIx (.str (tx l)) (.int x) st = some (.str (tx [c]), st) := by
  subst hx
  exact ix_tx h hi
theorem tx_one {o : Option Nat} {c : Nat} : (tx o.toList = tx [c]) ↔ o = some c := by
  rw [tx_eq]
  cases o <;> simp
theorem dot_tx : ("." : Str) = tx [46] := by decide +kernel
theorem zero_tx : ("0" : Str) = tx [48] := by decide +kernel
theorem tilde_tx : ("~" : Str) = tx [126] := by decide +kernel
theorem que_tx : ("?" : Str) = tx [63] := by decide +kernel
theorem dash_tx : ("-" : Str) = tx [45] := by decide +kernel
theorem gt_tx : (">" : Str) = tx [62] := by decide +kernel
theorem one_eq {a b : Nat} : (tx [a] = tx [b]) ↔ a = b := by rw [tx_eq]; simp
/-! ### digits_end -/
theorem g_digits_end (hl : l.length ≤ 2000) {i b row : Nat} (hi : i ≤ l.length) : G_digits_end [.str (tx l), .int (row : Int), .int (i : Int), .int (b : Int)] st = some (if bad ((l.drop i).takeWhile isF) then .exc ⟨"NoText", [("line", .int (row : Int)), ("column", .int (b : Int))]⟩ else .ok (.int ((i + ((l.drop i).takeWhile isF).length : Nat) : Int)), st) := by
  have e1 : ∀ x, m_digits_end_1 [some (.str (tx l)), some (.int (row : Int)), some (.int (i : Int)), some (.int (b : Int)), x] st = some (.nx [some (.str (tx l)), some (.int (row : Int)), some (.int (i : Int)), some (.int (b : Int)), some (.int ((i + ((l.drop i).takeWhile isF).length : Nat) : Int))], st) := by
    intro x
    simp [-Int.natCast_add, m_digits_end_1, g_run_end hl (fun _ => m_fig) hi]
  generalize hf : (l.drop i).takeWhile isF = f at *
  have t2 : t_digits_end_2 [some (.str (tx l)), some (.int (row : Int)), some (.int (i : Int)), some (.int (b : Int)), some (.int ((i + f.length : Nat) : Int))] st = some (.ok (decide (bad f)), st) := by
    unfold t_digits_end_2
    by_cases h0 : f = []
    · subst h0
      rw [ev_or_t (st1 := st) (by simp)]
      simp [bad]
    · have hp : 0 < f.length := List.length_pos_iff.mpr h0
      have hne : ((((i + f.length : Nat) : Int)) == (i : Int)) = false := beq_eq_false_iff_ne.mpr (by omega)
      rw [ev_or_f (st1 := st) (by simp [-Int.natCast_add, hne])]
      obtain ⟨c, r, hc⟩ : ∃ c r, l.drop i = c :: r := by
        cases q : l.drop i with
        | nil => rw [q] at hf; exact absurd hf.symm h0
        | cons c r => exact ⟨c, r, rfl⟩
      obtain ⟨hci, hr⟩ := drop_some hc
      have hh : f.head? = some c := by
        rw [hc, List.takeWhile_cons] at hf
        split at hf
        · rw [← hf]; rfl
        · exact absurd hf.symm h0
      by_cases h48 : c = 48
      · subst h48
        rw [ev_and_t (st1 := st) (by simp [ix_tx hl hci, zero_tx])]
        have : decide ((i : Int) + 1 < ((i + f.length : Nat) : Int)) = decide (bad f) := by
          refine decide_eq_decide.mpr ⟨fun h => .inr ⟨hh, by omega⟩, ?_⟩
          rintro (h | ⟨_, h⟩)
          · exact absurd h h0
          · omega
        simp [-Int.natCast_add, this]
      · rw [ev_and_f (st1 := st) (by simp [ix_tx hl hci, zero_tx, one_eq, h48])]
        have : ¬ bad f := by
          unfold bad
          rw [hh]
          rintro (h | ⟨h, _⟩)
          · exact h0 h
          · exact h48 (Option.some.inj h)
        simp [this]
  have e0 : env0 5 [D.str (tx l), .int (row : Int), .int (i : Int), .int (b : Int)] = [some (.str (tx l)), some (.int (row : Int)), some (.int (i : Int)), some (.int (b : Int)), none] := rfl
  by_cases hb : bad f
  · rw [if_pos hb]
    rw [decide_eq_true hb] at t2
    refine runX_exc (e1 := [some (.str (tx l)), some (.int (row : Int)), some (.int (i : Int)), some (.int (b : Int)), some (.int ((i + f.length : Nat) : Int))]) ?_
    unfold m_digits_end
    rw [e0, ev_sSeq (e1 _)]
    refine ev_sSeq_exc ?_
    unfold m_digits_end_2
    rw [ev_if_t t2]
    simp [b_digits_end_2t, m_digits_end_2t1]
  · rw [if_neg hb]
    rw [decide_eq_false hb] at t2
    refine runX_rt ?_
    unfold m_digits_end
    rw [e0, ev_sSeq (e1 _)]
    rw [ev_sSeq (show m_digits_end_2 _ _ = _ from (ev_if_f t2).trans ev_sNil)]
    simp [m_digits_end_3]
end
end K06
end FW

set_option maxHeartbeats 4000000
namespace FW
namespace K06
open PySem PySem.Spec L2

section
variable {l : List Nat} {st : Store}
/-- a run of digits that is no bad one is a number -/
theorem int_fig {f : List Nat} (hf : ∀ c ∈ f, isF c = true) (h0 : f ≠ []) (hl : f.length ≤ 600) : fIntS [.str (tx f)] st = some (.int (NumText.digitsVal f : Nat), st) := by
  have hd : NumText.AllDigits (tx f).cps.toList := fun c hc => by
    have := hf c (by simpa using hc)
    unfold isF at this
    simpa using this
  have e := PySem.intText_digits hd (by simpa using h0) (by rw [tx_len]; omega)
  rw [tx_list] at e
  show (match PySem.intText? (tx f) with
    | some n => if (tx f).length ≤ 640 then some (D.int n, st) else none
    | none => none) = _
  rw [e]
  dsimp only
  rw [tx_len, if_pos (by omega)]
@[simp] theorem int_bl {b : Bool} : fIntS [.bl b] st = some (.int (b.toNat : Nat), st) := by cases b <;> rfl
theorem tw_ne {f r : List Nat} {c : Nat} (h : (c :: r).takeWhile isF = f) (h0 : f ≠ []) : f.head? = some c := by
  rw [List.takeWhile_cons] at h
  split at h
  · rw [← h]; rfl
  · exact absurd h.symm h0
theorem not_bad {f : List Nat} (h : ¬ bad f) : f ≠ [] := fun e => h (.inl e)
/-! ### variable_end -/
theorem g_variable_end (hl : l.length ≤ 2000) {i row : Nat} (hi : i < l.length) : G_variable_end [.str (tx l), .int (row : Int), .int (i : Int)] st = some (pW row i (wVar ((l.drop (i + 1)).takeWhile isF)), st) := by
  have d := g_digits_end (st := st) hl (i := i + 1) (b := i) (row := row) (by omega)
  generalize hf : (l.drop (i + 1)).takeWhile isF = f at *
  have e0 : env0 4 [D.str (tx l), .int (row : Int), .int (i : Int)] = [some (.str (tx l)), some (.int (row : Int)), some (.int (i : Int)), none] := rfl
  have s1 : m_variable_end_1 [some (.str (tx l)), some (.int (row : Int)), some (.int (i : Int)), none] st = bndS (some (if bad f then .exc ⟨"NoText", [("line", .int (row : Int)), ("column", .int (i : Int))]⟩ else .ok (.int ((i + 1 + f.length : Nat) : Int)), st)) [some (.str (tx l)), some (.int (row : Int)), some (.int (i : Int)), none] fun d st1 => (gN 3 d [some (.str (tx l)), some (.int (row : Int)), some (.int (i : Int)), none] st1).map fun p => (.nx p.1, p.2) := by
    unfold m_variable_end_1
    rw [ev_sAsg, ← d]
    rfl
  by_cases hb : bad f
  · rw [if_pos hb] at s1
    have : wVar f = .no 0 := if_pos (.inl hb)
    rw [this]
    refine runX_exc (e1 := [some (.str (tx l)), some (.int (row : Int)), some (.int (i : Int)), none]) ?_
    unfold m_variable_end
    rw [e0]
    refine ev_sSeq_exc ?_
    rw [s1]
    rfl
  · rw [if_neg hb] at s1
    have e1 : m_variable_end_1 [some (.str (tx l)), some (.int (row : Int)), some (.int (i : Int)), none] st = some (.nx [some (.str (tx l)), some (.int (row : Int)), some (.int (i : Int)), some (.int ((i + 1 + f.length : Nat) : Int))], st) := s1
    have t2 : t_variable_end_2 [some (.str (tx l)), some (.int (row : Int)), some (.int (i : Int)), some (.int ((i + 1 + f.length : Nat) : Int))] st = some (.ok (decide (9 < f.length)), st) := by
      have : decide ((9 : Int) < ((i + 1 + f.length : Nat) : Int) - i - 1) = decide (9 < f.length) := decide_eq_decide.mpr (by omega)
      simp [-Int.natCast_add, t_variable_end_2, this]
    by_cases h9 : 9 < f.length
    · have : wVar f = .no 0 := if_pos (.inr h9)
      rw [this]
      rw [decide_eq_true h9] at t2
      refine runX_exc (e1 := [some (.str (tx l)), some (.int (row : Int)), some (.int (i : Int)), some (.int ((i + 1 + f.length : Nat) : Int))]) ?_
      unfold m_variable_end
      rw [e0, ev_sSeq e1]
      refine ev_sSeq_exc ?_
      unfold m_variable_end_2
      rw [ev_if_t t2]
      simp [b_variable_end_2t, m_variable_end_2t1]
    · have : wVar f = .ok (1 + f.length) := if_neg (fun h => h.elim hb h9)
      rw [this]
      rw [decide_eq_false h9] at t2
      refine runX_rt ?_
      unfold m_variable_end
      rw [e0, ev_sSeq e1]
      rw [ev_sSeq (show m_variable_end_2 _ _ = _ from (ev_if_f t2).trans ev_sNil)]
      simp [-Int.natCast_add, m_variable_end_3]
      omega
/-! ### number_end -/
theorem g_number_end (hl : l.length ≤ 2000) {i row c : Nat} (hc : l[i]? = some c) : G_number_end [.str (tx l), .int (row : Int), .int (i : Int)] st = some (pW row i (wNum ((l.drop (i + (decide (c = 126)).toNat)).takeWhile isF) (decide (c = 126))), st) := by
  have hi : i < l.length := (List.getElem?_eq_some_iff.mp hc).1
  have hb1 : (decide (c = 126)).toNat ≤ 1 := by cases decide (c = 126) <;> decide
  have d := g_digits_end (st := st) hl (i := i + (decide (c = 126)).toNat) (b := i) (row := row) (by omega)
  have hne : ∀ f, (l.drop (i + (decide (c = 126)).toNat)).takeWhile isF = f → f ≠ [] → ∃ c0, f.head? = some c0 ∧ l[i + (decide (c = 126)).toNat]? = some c0 := by
    intro f hf h0
    cases q : l.drop (i + (decide (c = 126)).toNat) with
    | nil => rw [q] at hf; exact absurd hf.symm h0
    | cons c0 r =>
      rw [q] at hf
      exact ⟨c0, tw_ne hf h0, (drop_some q).1⟩
  have hall : ∀ z ∈ (l.drop (i + (decide (c = 126)).toNat)).takeWhile isF, isF z = true := tw_all _
  have hcut : (l.drop (i + (decide (c = 126)).toNat)).take ((l.drop (i + (decide (c = 126)).toNat)).takeWhile isF).length = (l.drop (i + (decide (c = 126)).toNat)).takeWhile isF := (tw_take _).symm
  replace hne := hne _ rfl
  generalize hg : decide (c = 126) = g at *
  generalize hf : (l.drop (i + g.toNat)).takeWhile isF = f at *
  have e0 : env0 7 [D.str (tx l), .int (row : Int), .int (i : Int)] = [some (.str (tx l)), some (.int (row : Int)), some (.int (i : Int)), none, none, none, none] := rfl
  have a1 : m_number_end_1 [some (.str (tx l)), some (.int (row : Int)), some (.int (i : Int)), none, none, none, none] st = some (.nx [some (.str (tx l)), some (.int (row : Int)), some (.int (i : Int)), some (.bl g), none, none, none], st) := by
    simp [m_number_end_1, ix_tx hl hc, tilde_tx, one_eq, hg]
  have a2 : m_number_end_2 [some (.str (tx l)), some (.int (row : Int)), some (.int (i : Int)), some (.bl g), none, none, none] st = some (.nx [some (.str (tx l)), some (.int (row : Int)), some (.int (i : Int)), some (.bl g), some (.int ((i + g.toNat : Nat) : Int)), none, none], st) := by
    simp [m_number_end_2]
  have s3 : m_number_end_3 [some (.str (tx l)), some (.int (row : Int)), some (.int (i : Int)), some (.bl g), some (.int ((i + g.toNat : Nat) : Int)), none, none] st = bndS (some (if bad f then .exc ⟨"NoText", [("line", .int (row : Int)), ("column", .int (i : Int))]⟩ else .ok (.int ((i + g.toNat + f.length : Nat) : Int)), st)) [some (.str (tx l)), some (.int (row : Int)), some (.int (i : Int)), some (.bl g), some (.int ((i + g.toNat : Nat) : Int)), none, none] fun d st1 => (gN 5 d [some (.str (tx l)), some (.int (row : Int)), some (.int (i : Int)), some (.bl g), some (.int ((i + g.toNat : Nat) : Int)), none, none] st1).map fun p => (.nx p.1, p.2) := by
    unfold m_number_end_3
    rw [ev_sAsg, ← d]
    rfl
  by_cases hb : bad f
  · rw [if_pos hb] at s3
    have : wNum f g = .no 0 := if_pos (.inl hb)
    rw [this]
    refine runX_exc (e1 := [some (.str (tx l)), some (.int (row : Int)), some (.int (i : Int)), some (.bl g), some (.int ((i + g.toNat : Nat) : Int)), none, none]) ?_
    unfold m_number_end
    rw [e0, ev_sSeq a1, ev_sSeq a2]
    refine ev_sSeq_exc ?_
    rw [s3]
    rfl
  rw [if_neg hb] at s3
  replace s3 : m_number_end_3 [some (.str (tx l)), some (.int (row : Int)), some (.int (i : Int)), some (.bl g), some (.int ((i + g.toNat : Nat) : Int)), none, none] st = some (.nx [some (.str (tx l)), some (.int (row : Int)), some (.int (i : Int)), some (.bl g), some (.int ((i + g.toNat : Nat) : Int)), some (.int ((i + g.toNat + f.length : Nat) : Int)), none], st) := s3
  have h0 := not_bad hb
  obtain ⟨c0, hh, h00⟩ := hne h0
  have t4 : t_number_end_4 [some (.str (tx l)), some (.int (row : Int)), some (.int (i : Int)), some (.bl g), some (.int ((i + g.toNat : Nat) : Int)), some (.int ((i + g.toNat + f.length : Nat) : Int)), none] st = some (.ok (decide (10 < f.length ∨ (g = true ∧ f.head? = some 48))), st) := by
    unfold t_number_end_4
    by_cases h10 : 10 < f.length
    · have : decide ((9 : Int) + 1 < ((i + g.toNat + f.length : Nat) : Int) - ((i + g.toNat : Nat) : Int)) = true := decide_eq_true (by omega)
      rw [ev_or_t (st1 := st) (by simp [-Int.natCast_add]; omega)]
      simp [h10]
    · rw [ev_or_f (st1 := st) (by simp [-Int.natCast_add]; omega)]
      cases g with
      | false =>
        rw [ev_and_f (st1 := st) (by simp)]
        simp [h10]
      | true =>
        rw [ev_and_t (st1 := st) (by simp)]
        have h1 : l[i + 1]? = some c0 := h00
        simp [-Int.natCast_add, ix_tx hl h1, zero_tx, one_eq, h10, hh]
  by_cases h4 : 10 < f.length ∨ (g = true ∧ f.head? = some 48)
  · rw [decide_eq_true h4] at t4
    have : wNum f g = .no 0 := if_pos (h4.elim (fun h => .inr (.inl h)) fun h => .inr (.inr (.inl h)))
    rw [this]
    refine runX_exc (e1 := [some (.str (tx l)), some (.int (row : Int)), some (.int (i : Int)), some (.bl g), some (.int ((i + g.toNat : Nat) : Int)), some (.int ((i + g.toNat + f.length : Nat) : Int)), none]) ?_
    unfold m_number_end
    rw [e0, ev_sSeq a1, ev_sSeq a2, ev_sSeq s3]
    refine ev_sSeq_exc ?_
    unfold m_number_end_4
    rw [ev_if_t t4]
    simp [b_number_end_4t, m_number_end_4t1]
  rw [decide_eq_false h4] at t4
  have hlen : f.length ≤ 10 := by
    by_cases h : 10 < f.length
    · exact absurd (.inl h) h4
    · omega
  have a5 : m_number_end_5 [some (.str (tx l)), some (.int (row : Int)), some (.int (i : Int)), some (.bl g), some (.int ((i + g.toNat : Nat) : Int)), some (.int ((i + g.toNat + f.length : Nat) : Int)), none] st = some (.nx [some (.str (tx l)), some (.int (row : Int)), some (.int (i : Int)), some (.bl g), some (.int ((i + g.toNat : Nat) : Int)), some (.int ((i + g.toNat + f.length : Nat) : Int)), some (.int (NumText.digitsVal f : Nat))], st) := by
    simp [-Int.natCast_add, m_number_end_5, sl_n (n := f.length) hl rfl rfl rfl, hcut, int_fig hall h0 (by omega)]
  have t6 : t_number_end_6 [some (.str (tx l)), some (.int (row : Int)), some (.int (i : Int)), some (.bl g), some (.int ((i + g.toNat : Nat) : Int)), some (.int ((i + g.toNat + f.length : Nat) : Int)), some (.int (NumText.digitsVal f : Nat))] st = some (.ok (decide (2147483647 + g.toNat < NumText.digitsVal f)), st) := by
    generalize NumText.digitsVal f = v
    unfold t_number_end_6
    cases g with
    | false =>
      rw [ev_xNot, ev_xTru, ev_xCl, ev_aC, ev_xIf_f (st1 := st) (by simp)]
      simp [g_is_number]
      rw [Bool.eq_iff_iff]
      simp
      omega
    | true =>
      rw [ev_xNot, ev_xTru, ev_xCl, ev_aC, ev_xIf_t (st1 := st) (by simp)]
      simp [g_is_number]
      rw [Bool.eq_iff_iff]
      simp
      omega
  by_cases h6 : 2147483647 + g.toNat < NumText.digitsVal f
  · rw [decide_eq_true h6] at t6
    have : wNum f g = .no 0 := if_pos (.inr (.inr (.inr h6)))
    rw [this]
    refine runX_exc (e1 := [some (.str (tx l)), some (.int (row : Int)), some (.int (i : Int)), some (.bl g), some (.int ((i + g.toNat : Nat) : Int)), some (.int ((i + g.toNat + f.length : Nat) : Int)), some (.int (NumText.digitsVal f : Nat))]) ?_
    unfold m_number_end
    rw [e0, ev_sSeq a1, ev_sSeq a2, ev_sSeq s3, ev_sSeq (show m_number_end_4 _ _ = _ from (ev_if_f t4).trans ev_sNil), ev_sSeq a5]
    refine ev_sSeq_exc ?_
    unfold m_number_end_6
    rw [ev_if_t t6]
    simp [b_number_end_6t, m_number_end_6t1]
  · rw [decide_eq_false h6] at t6
    have : wNum f g = .ok (g.toNat + f.length) := if_neg (fun h => h.elim hb fun h => h.elim (fun h => h4 (.inl h)) fun h => h.elim (fun h => h4 (.inr h)) h6)
    rw [this]
    refine runX_rt ?_
    unfold m_number_end
    rw [e0, ev_sSeq a1, ev_sSeq a2, ev_sSeq s3, ev_sSeq (show m_number_end_4 _ _ = _ from (ev_if_f t4).trans ev_sNil), ev_sSeq a5, ev_sSeq (show m_number_end_6 _ _ = _ from (ev_if_f t6).trans ev_sNil)]
    simp [-Int.natCast_add, m_number_end_7]
    omega
end
end K06
end FW

set_option maxHeartbeats 4000000
namespace FW
namespace K06
open PySem PySem.Spec L2

section
variable {l : List Nat} {st : Store}
theorem tx_nil : ("" : Str) = tx [] := by decide +kernel
theorem great_of {c : Nat} (h : isL c = true) (hs : isS c = false) : isG c = true := by
  unfold isL at h
  rw [hs] at h
  simpa using h
theorem not_both {c : Nat} (hs : isS c = true) : isG c = false := by
  unfold isS at hs
  unfold isG
  simp at hs ⊢
  omega
theorem let_behind {c : Nat} (h : isL c = true) : isB c = true := by unfold isB; rw [h]; rfl
/-! ### name_end -/
theorem g_name_end (hl : l.length ≤ 2000) {i row c : Nat} (hc : l[i]? = some c) (hL : isL c = true) : G_name_end [.str (tx l), .int (row : Int), .int (i : Int)] st = some (pW row i (wName (l.drop i) (isG c)), st) := by
  have hi : i < l.length := (List.getElem?_eq_some_iff.mp hc).1
  have e0 : env0 5 [D.str (tx l), .int (row : Int), .int (i : Int)] = [some (.str (tx l)), some (.int (row : Int)), some (.int (i : Int)), none, none] := rfl
  have r1 := g_run_end (st := st) hl (z := sBh) (fun _ => m_beh) (i := i) (by omega)
  have hle : i + nB (l.drop i) ≤ l.length := by
    have := tw_le (p := isB) (l.drop i)
    simp only [List.length_drop] at this
    unfold nB
    omega
  have a1 : m_name_end_1 [some (.str (tx l)), some (.int (row : Int)), some (.int (i : Int)), none, none] st = some (.nx [some (.str (tx l)), some (.int (row : Int)), some (.int (i : Int)), some (.int ((i + nB (l.drop i) : Nat) : Int)), none], st) := by
    simp [-Int.natCast_add, m_name_end_1, sBh_eq2, r1]
    rfl
  have hg1 : ∀ k, (l.drop i)[k]? = l[i + k]? := fun k => List.getElem?_drop
  have hg2 : ∀ k, (l.drop i).drop k = l.drop (i + k) := fun k => List.drop_drop
  unfold wName
  rw [hg1, hg1, hg2]
  generalize hn : nB (l.drop i) = n at *
  have t2 : t_name_end_2 [some (.str (tx l)), some (.int (row : Int)), some (.int (i : Int)), some (.int ((i + n : Nat) : Int)), none] st = some (.ok (decide (20 < n)), st) := by
    have : decide ((20 : Int) < ((i + n : Nat) : Int) - i) = decide (20 < n) := decide_eq_decide.mpr (by omega)
    simp [-Int.natCast_add, t_name_end_2, this]
  by_cases h20 : 20 < n
  · rw [if_pos h20]
    rw [decide_eq_true h20] at t2
    refine runX_exc (e1 := [some (.str (tx l)), some (.int (row : Int)), some (.int (i : Int)), some (.int ((i + n : Nat) : Int)), none]) ?_
    unfold m_name_end
    rw [e0, ev_sSeq a1]
    refine ev_sSeq_exc ?_
    unfold m_name_end_2
    rw [ev_if_t t2]
    simp [b_name_end_2t, m_name_end_2t1]
  rw [if_neg h20]
  rw [decide_eq_false h20] at t2
  have t3 : t_name_end_3 [some (.str (tx l)), some (.int (row : Int)), some (.int (i : Int)), some (.int ((i + n : Nat) : Int)), none] st = some (.ok (!(isG c && decide (l[i + n]? = some 46) && (match l[i + (n + 1)]? with | some d => isL d | none => true))), st) := by
    unfold t_name_end_3
    cases hs : isS c with
    | true =>
      rw [ev_or_t (st1 := st) (by simp [ix_tx hl hc, in_tx, m_small, hs, -Array.mem_toList_iff])]
      simp [not_both hs]
    | false =>
      rw [ev_or_f (st1 := st) (by simp [ix_tx hl hc, in_tx, m_small, hs, -Array.mem_toList_iff]), great_of hL hs]
      have s1 : oSl (.str (tx l)) (some ((i + n : Nat) : Int)) (some (((i + n : Nat) : Int) + 1)) st = some (.str (tx (l[i + n]?).toList), st) := sl_one hl rfl rfl
      by_cases h46 : l[i + n]? = some 46
      · rw [ev_or_f (st1 := st) (by simp [-Int.natCast_add, s1, dot_tx, h46])]
        have s2 : oSl (.str (tx l)) (some (((i + n : Nat) : Int) + 1)) (some (((i + n : Nat) : Int) + 2)) st = some (.str (tx (l[i + (n + 1)]?).toList), st) := sl_one (a := i + (n + 1)) hl (by omega) (by omega)
        cases q : l[i + (n + 1)]? with
        | none =>
          rw [q] at s2
          have s2' : oSl (.str (tx l)) (some (((i + n : Nat) : Int) + 1)) (some (((i + n : Nat) : Int) + 2)) st = some (.str (tx []), st) := s2
          simp [-Int.natCast_add, s2', ev_lt, nin_nil, h46]
        | some d =>
          rw [q] at s2
          have s2' : oSl (.str (tx l)) (some (((i + n : Nat) : Int) + 1)) (some (((i + n : Nat) : Int) + 2)) st = some (.str (tx [d]), st) := s2
          simp [-Int.natCast_add, s2', ev_lt, nin_tx, h46, m_let, -Array.mem_toList_iff]
      · rw [ev_or_t (st1 := st) (by simp [-Int.natCast_add, s1, dot_tx, tx_one, h46])]
        simp [h46]
  by_cases h3 : (isG c && decide (l[i + n]? = some 46) && (match l[i + (n + 1)]? with | some d => isL d | none => true)) = true
  · rw [h3] at t3
    replace t3 : t_name_end_3 [some (.str (tx l)), some (.int (row : Int)), some (.int (i : Int)), some (.int ((i + n : Nat) : Int)), none] st = some (.ok false, st) := t3
    simp only [Bool.and_eq_true, decide_eq_true_eq] at h3
    obtain ⟨⟨hG, h46⟩, hnext⟩ := h3
    have hlt : i + n < l.length := (List.getElem?_eq_some_iff.mp h46).1
    have t4 : t_name_end_4 [some (.str (tx l)), some (.int (row : Int)), some (.int (i : Int)), some (.int ((i + n : Nat) : Int)), none] st = some (.ok (decide (l.length = i + (n + 1))), st) := by
      have : (((l.length : Int)) == ((i + n : Nat) : Int) + 1) = decide (l.length = i + (n + 1)) := by
        rw [Bool.eq_iff_iff]
        simp
        omega
      simp [-Int.natCast_add, t_name_end_4, len_tx hl, this]
    by_cases h4 : l.length = i + (n + 1)
    · rw [decide_eq_true h4] at t4
      have hnone : l[i + (n + 1)]? = none := List.getElem?_eq_none_iff.mpr (by omega)
      rw [if_neg (by rintro ⟨_, _, h⟩; rw [hnone] at h; exact absurd h (by decide))]
      refine runX_rt ?_
      unfold m_name_end
      rw [e0, ev_sSeq a1, ev_sSeq (show m_name_end_2 _ _ = _ from (ev_if_f t2).trans ev_sNil), ev_sSeq (show m_name_end_3 _ _ = _ from (ev_if_f t3).trans ev_sNil)]
      refine ev_sSeq_rt ?_
      unfold m_name_end_4
      rw [ev_if_t t4]
      simp [b_name_end_4t, m_name_end_4t1]
    · rw [decide_eq_false h4] at t4
      obtain ⟨d, hd⟩ : ∃ d, l[i + (n + 1)]? = some d := ⟨l[i + (n + 1)]'(by omega), by simp⟩
      rw [hd] at hnext
      replace hnext : isL d = true := hnext
      rw [if_pos ⟨hG, h46, by rw [hd]; simpa using hnext⟩]
      have r5 := g_run_end (st := st) hl (z := sBh) (fun _ => m_beh) (i := i + (n + 1)) (by omega)
      have hcut : (l.drop (i + (n + 1))).take (nB (l.drop (i + (n + 1)))) = (l.drop (i + (n + 1))).takeWhile isB := (tw_take _).symm
      replace r5 : G_run_end [.str (tx l), .int (((i + n : Nat) : Int) + 1), .str sBh] st = some (.int ((i + (n + 1) + nB (l.drop (i + (n + 1))) : Nat) : Int), st) := r5
      generalize hm : nB (l.drop (i + (n + 1))) = m at *
      have a5 : m_name_end_5 [some (.str (tx l)), some (.int (row : Int)), some (.int (i : Int)), some (.int ((i + n : Nat) : Int)), none] st = some (.nx [some (.str (tx l)), some (.int (row : Int)), some (.int (i : Int)), some (.int ((i + n : Nat) : Int)), some (.int ((i + (n + 1) + m : Nat) : Int))], st) := by
        simp [-Int.natCast_add, m_name_end_5, sBh_eq2, r5]
      have t6 : t_name_end_6 [some (.str (tx l)), some (.int (row : Int)), some (.int (i : Int)), some (.int ((i + n : Nat) : Int)), some (.int ((i + (n + 1) + m : Nat) : Int))] st = some (.ok (decide (20 < m ∨ tx ((l.drop (i + (n + 1))).take m) ∈ BARR)), st) := by
        unfold t_name_end_6
        have e : decide ((20 : Int) < ((i + (n + 1) + m : Nat) : Int) - ((i + n : Nat) : Int) - 1) = decide (20 < m) := decide_eq_decide.mpr (by omega)
        by_cases h20 : 20 < m
        · rw [ev_or_t (st1 := st) (by simp [-Int.natCast_add, e, h20])]
          simp [h20]
        · rw [ev_or_f (st1 := st) (by simp [-Int.natCast_add, e, h20])]
          have s2 : oSl (.str (tx l)) (some (((i + n : Nat) : Int) + 1)) (some ((i + (n + 1) + m : Nat) : Int)) st = some (.str (tx ((l.drop (i + (n + 1))).take m)), st) := sl_n (a := i + (n + 1)) hl (by omega) rfl rfl
          have i2 := ev_inStrs (neg := false) (x := tx ((l.drop (i + (n + 1))).take m)) (ys := BARR) (st := st)
          rw [show (decide (20 < m ∨ tx ((l.drop (i + (n + 1))).take m) ∈ BARR)) = decide (tx ((l.drop (i + (n + 1))).take m) ∈ BARR) from decide_eq_decide.mpr ⟨fun h => h.resolve_left h20, .inr⟩]
          rw [ev_xTst, ev_x2, ev_xSl, ev_xV rfl, ev_bnd_ok, ev_pS, ev_x2, ev_xV rfl, ev_bnd_ok, ev_xC, ev_bnd_ok, ev_addI, ev_ok0, ev_bnd_ok, ev_bnd_ok, ev_pS, ev_xV rfl, ev_bnd_ok, ev_bnd_ok, s2, ev_ok0, ev_bnd_ok, ev_xC, ev_bnd_ok]
          show bnd (ok0 (oIn false (.str (tx ((l.drop (i + (n + 1))).take m))) (.tup (BARR.map D.str)) st)) _ = _
          rw [i2]
          rfl
      by_cases h6 : 20 < m ∨ tx ((l.drop (i + (n + 1))).take m) ∈ BARR
      · rw [if_pos h6]
        rw [decide_eq_true h6] at t6
        refine runX_exc (e1 := [some (.str (tx l)), some (.int (row : Int)), some (.int (i : Int)), some (.int ((i + n : Nat) : Int)), some (.int ((i + (n + 1) + m : Nat) : Int))]) ?_
        unfold m_name_end
        rw [e0, ev_sSeq a1, ev_sSeq (show m_name_end_2 _ _ = _ from (ev_if_f t2).trans ev_sNil), ev_sSeq (show m_name_end_3 _ _ = _ from (ev_if_f t3).trans ev_sNil), ev_sSeq (show m_name_end_4 _ _ = _ from (ev_if_f t4).trans ev_sNil), ev_sSeq a5]
        refine ev_sSeq_exc ?_
        unfold m_name_end_6
        rw [ev_if_t t6]
        simp [-Int.natCast_add, b_name_end_6t, m_name_end_6t1]
        omega
      · rw [if_neg h6]
        rw [decide_eq_false h6] at t6
        refine runX_rt ?_
        unfold m_name_end
        rw [e0, ev_sSeq a1, ev_sSeq (show m_name_end_2 _ _ = _ from (ev_if_f t2).trans ev_sNil), ev_sSeq (show m_name_end_3 _ _ = _ from (ev_if_f t3).trans ev_sNil), ev_sSeq (show m_name_end_4 _ _ = _ from (ev_if_f t4).trans ev_sNil), ev_sSeq a5, ev_sSeq (show m_name_end_6 _ _ = _ from (ev_if_f t6).trans ev_sNil)]
        simp [-Int.natCast_add, m_name_end_7]
        omega
  · have h3' := Bool.eq_false_iff.mpr h3
    rw [h3'] at t3
    rw [if_neg (by
      rintro ⟨h1, h2, h4⟩
      apply h3
      rw [h1, decide_eq_true h2]
      cases q : l[i + (n + 1)]? with
      | none => rfl
      | some d => rw [q] at h4; simpa using h4)]
    refine runX_rt ?_
    unfold m_name_end
    rw [e0, ev_sSeq a1, ev_sSeq (show m_name_end_2 _ _ = _ from (ev_if_f t2).trans ev_sNil)]
    refine ev_sSeq_rt ?_
    unfold m_name_end_3
    rw [ev_if_t t3]
    simp [b_name_end_3t, m_name_end_3t1]
end
end K06
end FW

set_option maxHeartbeats 4000000
namespace FW
namespace K06
open PySem PySem.Spec L2

/-- a return of a def's worth -/
def outS (e : Env) (st : Store) : Res D → Option (SR × Store)
  | .ok d => some (.rt d, st)
  | .exc x => some (.exc x e, st)
section
variable {l : List Nat} {st : Store}
theorem ev_ret_clX {n : Nat} {F : Fn} {as : M (List D)} {e : Env} {ds : List D} {out : Res D} {st1 : Store} (h : as e st = some (.ok ds, st)) (hn : ds.length = n) (hF : F ds st = some (out, st1)) : sRet (xClX n F as) e st = outS e st1 out := by
  rw [ev_sRet, ev_xClX, h, ev_bnd_ok, if_pos hn, hF]
  cases out <;> rfl
/-- what a def's return of another def's worth is -/
theorem ret_pW {n row i : Nat} {m : MS} {e : Env} {ds : List D} {k : Nat} {w : W} (h : m (env0 n ds) st = outS e st (pW row i w)) : runX n m ds st = some (pW row i w, st) := by
  cases w with
  | ok k => exact runX_rt h
  | no k => exact runX_exc h
theorem seq_pW {row i : Nat} {m n : MS} {e e1 : Env} {w : W} (h : m e st = outS e1 st (pW row i w)) : sSeq m n e st = outS e1 st (pW row i w) := by
  cases w with
  | ok k => exact ev_sSeq_rt h
  | no k => exact ev_sSeq_exc h
theorem wd_cons (c : Nat) (r : List Nat) : wd (c :: r) = if isL c = true then wName (c :: r) (isG c) else if isF c = true then wNum ((c :: r).takeWhile isF) false else if c = 126 then wNum (r.takeWhile isF) true else if c = 63 then wVar (r.takeWhile isF)
    else if c = 45 then (if r.head? = some 62 then .ok 2 else .ok 1) else if isA c = true then .ok 1 else .no 0 := rfl
theorem alone_tx : ("=<+*(){},.|:_" : Str) = tx [61, 60, 43, 42, 40, 41, 123, 125, 44, 46, 124, 58, 95] := by decide +kernel
theorem m_alone {c : Nat} : decide (c ∈ ("=<+*(){},.|:_" : Str).cps.toList) = isA c := by
  rw [alone_tx, tx_list]
  rfl
/-! ### word_end -/
theorem g_word_end (hl : l.length ≤ 2000) {i row c : Nat} (hc : l[i]? = some c) : G_word_end [.str (tx l), .int (row : Int), .int (i : Int)] st = some (pW row i (wd (l.drop i)), st) := by
  have hi : i < l.length := (List.getElem?_eq_some_iff.mp hc).1
  have e0 : env0 4 [D.str (tx l), .int (row : Int), .int (i : Int)] = [some (.str (tx l)), some (.int (row : Int)), some (.int (i : Int)), none] := rfl
  have a1 : m_word_end_1 [some (.str (tx l)), some (.int (row : Int)), some (.int (i : Int)), none] st = some (.nx [some (.str (tx l)), some (.int (row : Int)), some (.int (i : Int)), some (.str (tx [c]))], st) := by
    simp [m_word_end_1, ix_tx hl hc]
  have as : (aC (xV 0) (aC (xV 1) (aC (xV 2) aN))) [some (.str (tx l)), some (.int (row : Int)), some (.int (i : Int)), some (.str (tx [c]))] st = some (.ok [.str (tx l), .int (row : Int), .int (i : Int)], st) := by simp
  have hd := drop_cons hc
  refine ret_pW (k := 0) (e := [some (.str (tx l)), some (.int (row : Int)), some (.int (i : Int)), some (.str (tx [c]))]) ?_
  unfold m_word_end
  rw [e0, ev_sSeq a1]
  have t2 : t_word_end_2 [some (.str (tx l)), some (.int (row : Int)), some (.int (i : Int)), some (.str (tx [c]))] st = some (.ok (isL c), st) := by
    simp [t_word_end_2, ev_lt, in_tx, m_let, -Array.mem_toList_iff]
  rw [hd, wd_cons]
  by_cases hL : isL c = true
  · rw [if_pos hL]
    rw [hL] at t2
    refine seq_pW ?_
    unfold m_word_end_2
    rw [ev_if_t t2]
    unfold b_word_end_2t m_word_end_2t1
    rw [ev_ret_clX (n := 3) as rfl (g_name_end hl hc hL), hd]
  rw [if_neg hL]
  rw [Bool.eq_false_iff.mpr hL] at t2
  rw [ev_sSeq (show m_word_end_2 _ _ = _ from (ev_if_f t2).trans ev_sNil)]
  have t3 : t_word_end_3 [some (.str (tx l)), some (.int (row : Int)), some (.int (i : Int)), some (.str (tx [c]))] st = some (.ok (isF c || decide (c = 126)), st) := by
    unfold t_word_end_3
    cases h : isF c with
    | true =>
      rw [ev_or_t (st1 := st) (by simp [in_tx, m_fig, h, -Array.mem_toList_iff])]
      rfl
    | false =>
      rw [ev_or_f (st1 := st) (by simp [in_tx, m_fig, h, -Array.mem_toList_iff])]
      simp [tilde_tx, one_eq]
  by_cases hF : isF c = true
  · rw [if_pos hF]
    rw [hF] at t3
    refine seq_pW ?_
    unfold m_word_end_3
    rw [ev_if_t t3]
    unfold b_word_end_3t m_word_end_3t1
    have hne : c ≠ 126 := by rintro rfl; exact absurd hF (by decide)
    have g := g_number_end (st := st) (row := row) hl hc
    rw [decide_eq_false hne] at g
    rw [ev_ret_clX (n := 3) as rfl g]
    rw [show i + false.toNat = i from rfl, hd]
  rw [if_neg hF]
  rw [Bool.eq_false_iff.mpr hF] at t3
  by_cases h126 : c = 126
  · subst h126
    rw [if_pos rfl]
    refine seq_pW ?_
    unfold m_word_end_3
    rw [ev_if_t t3]
    unfold b_word_end_3t m_word_end_3t1
    have g := g_number_end (st := st) (row := row) hl hc
    rw [decide_eq_true rfl] at g
    rw [ev_ret_clX (n := 3) as rfl g]
    rfl
  rw [if_neg h126]
  rw [decide_eq_false h126] at t3
  rw [ev_sSeq (show m_word_end_3 _ _ = _ from (ev_if_f t3).trans ev_sNil)]
  have t4 : t_word_end_4 [some (.str (tx l)), some (.int (row : Int)), some (.int (i : Int)), some (.str (tx [c]))] st = some (.ok (decide (c = 63)), st) := by
    simp [t_word_end_4, que_tx, one_eq]
  by_cases h63 : c = 63
  · subst h63
    rw [if_pos rfl]
    refine seq_pW ?_
    unfold m_word_end_4
    rw [ev_if_t t4]
    unfold b_word_end_4t m_word_end_4t1
    rw [ev_ret_clX (n := 3) as rfl (g_variable_end hl hi)]
  rw [if_neg h63]
  rw [decide_eq_false h63] at t4
  rw [ev_sSeq (show m_word_end_4 _ _ = _ from (ev_if_f t4).trans ev_sNil)]
  have t5 : t_word_end_5 [some (.str (tx l)), some (.int (row : Int)), some (.int (i : Int)), some (.str (tx [c]))] st = some (.ok (decide (c = 45)), st) := by
    simp [t_word_end_5, dash_tx, one_eq]
  by_cases h45 : c = 45
  · subst h45
    rw [if_pos rfl]
    have s1 : oSl (.str (tx l)) (some ((i : Int) + 1)) (some ((i : Int) + 2)) st = some (.str (tx (l[i + 1]?).toList), st) := sl_one (a := i + 1) hl (by omega) (by omega)
    have hh : (l.drop (i + 1)).head? = l[i + 1]? := by rw [List.head?_drop]
    rw [hh]
    refine seq_pW ?_
    unfold m_word_end_5
    rw [ev_if_t t5]
    unfold b_word_end_5t m_word_end_5t1
    by_cases h62 : l[i + 1]? = some 62
    · rw [if_pos h62, ev_sRet, ev_xIf_t (st1 := st) (by simp [s1, gt_tx, tx_one, h62])]
      simp
      rfl
    · rw [if_neg h62, ev_sRet, ev_xIf_f (st1 := st) (by simp [s1, gt_tx, tx_one, h62])]
      simp
      rfl
  rw [if_neg h45]
  rw [decide_eq_false h45] at t5
  rw [ev_sSeq (show m_word_end_5 _ _ = _ from (ev_if_f t5).trans ev_sNil)]
  have t6 : t_word_end_6 [some (.str (tx l)), some (.int (row : Int)), some (.int (i : Int)), some (.str (tx [c]))] st = some (.ok (!isA c), st) := by
    simp [t_word_end_6, nin_tx, m_alone, -Array.mem_toList_iff]
  by_cases hA : isA c = true
  · rw [if_pos hA]
    rw [hA] at t6
    rw [ev_sSeq (show m_word_end_6 _ _ = _ from (ev_if_f t6).trans ev_sNil)]
    simp [m_word_end_7, pW, outS]
  · rw [if_neg hA]
    rw [Bool.eq_false_iff.mpr hA] at t6
    refine seq_pW ?_
    unfold m_word_end_6
    rw [ev_if_t t6]
    simp [b_word_end_6t, m_word_end_6t1, pW, outS]
end
end K06
end FW

set_option maxHeartbeats 4000000
namespace FW
namespace K06
open PySem PySem.Spec L2

section
variable {t : List Nat} {st : Store}
/-- what the law makes of it -/
def lW (s : List Nat) : W → D
  | .ok n => .tup [.str (tx (s.take n)), .non]
  | .no k => .tup [.non, .int (k : Int)]
theorem fz (k : Nat) (h : k ≤ 1000000 := by decide) : k ≤ sizeLine := Nat.le_trans h sizeLine_big
theorem g_small_signs : G_law_small_signs [] st = some (.str "abcdefghijklmnopqrstuvwxyz", st) := runF_rt (by simp [m_law_small_signs, m_law_small_signs_1, env0])
theorem g_great_signs : G_law_great_signs [] st = some (.str "ABCDEFGHIJKLMNOPQRSTUVWXYZ", st) := runF_rt (by simp [m_law_great_signs, m_law_great_signs_1, env0])
theorem g_figures : G_law_figures [] st = some (.str "0123456789", st) := runF_rt (by simp [m_law_figures, m_law_figures_1, env0])
theorem g_barred : G_law_barred [] st = some (.lst (BARR.map D.str), st) := by
  refine runF_rt ?_
  unfold m_law_barred
  rw [ev_sSeq (e1 := [some (.lst ((BARR.take 14).map D.str))]) (st1 := st) (by simp [m_law_barred_1, env0, BARR, fz 14])]
  simp [m_law_barred_2, oAdd, lstOf, BARR, fz 7, fz 21]
theorem ev_bh (st : Store) : oAdd (.str sLt) (.str "0123456789") st = some (.str (sLt ++ ("0123456789" : Str)), st) ∧ oAdd (.str (sLt ++ ("0123456789" : Str))) (.str "_") st = some (.str sBh, st) := by
  have h := sizeLine_big
  have e1 : (sLt ++ ("0123456789" : Str)).length = 62 := by decide +kernel
  have e2 : sLt.length = 52 := by decide +kernel
  constructor
  · show (if sLt.length + ("0123456789" : Str).length ≤ sizeLine then some (D.str (sLt ++ ("0123456789" : Str)), st) else none) = _
    rw [if_pos]
    rw [e2, show ("0123456789" : Str).length = 10 by decide +kernel]
    omega
  · show (if (sLt ++ ("0123456789" : Str)).length + ("_" : Str).length ≤ sizeLine then some (D.str sBh, st) else none) = _
    rw [if_pos]
    rw [e1, show ("_" : Str).length = 1 by decide +kernel]
    omega
theorem sgns_tx (x : Str) : sgnsD x = (x.cps.toList.map fun c => tx [c]).map D.str := by
  unfold sgnsD
  rw [List.map_map]
  rfl
/-- a slice of at most one sign among the letters, as a tuple -/
theorem in_letters {o : Option Nat} : oIn false (.str (tx o.toList)) (.tup (sgnsD sLt)) st = some (.bl (o.any isL), st) := by
  rw [sgns_tx, ev_inStrs]
  congr 3
  show decide _ = _
  cases o with
  | none =>
    rw [decide_eq_false]
    · rfl
    · intro h
      obtain ⟨c, _, e⟩ := List.mem_map.mp h
      exact absurd (tx_inj e) (by simp)
  | some d =>
    show _ = isL d
    rw [← m_let]
    refine decide_eq_decide.mpr ⟨fun h => ?_, fun h => List.mem_map.mpr ⟨d, h, rfl⟩⟩
    obtain ⟨c, hc, e⟩ := List.mem_map.mp h
    have : c = d := by have := tx_inj e; simpa using this
    rw [← this]
    exact hc
theorem big12 : oPow (.int 10) (.int 12) st = some (.int 1000000000000, st) := by
  show (if CPow 10 12 then _ else none) = _
  rw [if_pos (by unfold CPow; decide)]
  rfl
/-- eleven figures, the first of them no naught -/
theorem dv_fold : ∀ (r : List Nat) (a : Nat), a * 10 ^ r.length ≤ r.foldl (fun acc c => acc * 10 + (c - 48)) a
  | [], a => by simp
  | c :: r, a => by
    rw [List.foldl_cons, List.length_cons, Nat.pow_succ]
    have := dv_fold r (a * 10 + (c - 48))
    have h2 : a * 10 * 10 ^ r.length ≤ (a * 10 + (c - 48)) * 10 ^ r.length := Nat.mul_le_mul_right _ (by omega)
    have e : a * (10 ^ r.length * 10) = a * 10 * 10 ^ r.length := by rw [Nat.mul_comm (10 ^ r.length), Nat.mul_assoc]
    omega
theorem dv_big {f : List Nat} (hf : ∀ c ∈ f, isF c = true) (h : 10 < f.length) (h0 : f.head? ≠ some 48) : 2147483648 < NumText.digitsVal f := by
  cases f with
  | nil => simp at h
  | cons c r =>
    have hc := hf c List.mem_cons_self
    unfold isF at hc
    simp only [Bool.and_eq_true, decide_eq_true_eq] at hc
    have h49 : 49 ≤ c := by
      rcases Nat.lt_or_ge c 49 with h | h
      · exact absurd (by simp; omega) h0
      · exact h
    unfold NumText.digitsVal
    rw [List.foldl_cons]
    have := dv_fold r (0 * 10 + (c - 48))
    have hr : 10 ≤ r.length := by simp only [List.length_cons] at h; omega
    have hp : 10 ^ 10 ≤ 10 ^ r.length := Nat.pow_le_pow_right (by omega) hr
    have : 1 * 10 ^ r.length ≤ (0 * 10 + (c - 48)) * 10 ^ r.length := Nat.mul_le_mul_right _ (by omega)
    omega
abbrev eW (t : List Nat) (i : Nat) (x4 x5 x6 x7 x8 x9 : Option D) : Env := [some (.str (tx t)), some (.int (i : Int)), some (.str sLt), some (.str sBh), x4, x5, x6, x7, x8, x9]
theorem law_name (hl : t.length ≤ 2000) {i c : Nat} (hc : t[i]? = some c) (hL : isL c = true) : b_law_word_at_3t (eW t i none none none none none none) st = some (.rt (lW (t.drop i) (wName (t.drop i) (isG c))), st) := by
  have hi : i < t.length := (List.getElem?_eq_some_iff.mp hc).1
  have hg1 : ∀ k, (t.drop i)[k]? = t[i + k]? := fun k => List.getElem?_drop
  have hg2 : ∀ k, (t.drop i).drop k = t.drop (i + k) := fun k => List.drop_drop
  have r1 := g_law_run_from (st := st) hl (z := sBh) (fun _ => m_beh) (i := i) (by omega)
  have hle : i + nB (t.drop i) ≤ t.length := by
    have := tw_le (p := isB) (t.drop i)
    simp only [List.length_drop] at this
    unfold nB
    omega
  have hw : (t.drop i).takeWhile isB = (t.drop i).take (nB (t.drop i)) := tw_take _
  have hwl : ((t.drop i).take (nB (t.drop i))).length = nB (t.drop i) := by rw [List.length_take, List.length_drop]; omega
  rw [hw] at r1
  unfold wName
  rw [hg1, hg1, hg2]
  generalize hn : nB (t.drop i) = n at *
  have a1 : m_law_word_at_3t1 (eW t i none none none none none none) st = some (.nx (eW t i (some (.str (tx ((t.drop i).take n)))) none none none none none), st) := by
    simp [m_law_word_at_3t1, eW, r1]
  have lw : fLen [.str (tx ((t.drop i).take n))] st = some (.int n, st) := by
    rw [len_tx (by omega), hwl]
  have t2 : t_law_word_at_3t2 (eW t i (some (.str (tx ((t.drop i).take n)))) none none none none none) st = some (.ok (decide (20 < n)), st) := by
    have : decide ((20 : Int) < (n : Int)) = decide (20 < n) := decide_eq_decide.mpr (by omega)
    simp [t_law_word_at_3t2, eW, lw, this]
  unfold b_law_word_at_3t
  rw [ev_sSeq a1]
  by_cases h20 : 20 < n
  · rw [if_pos h20]
    rw [decide_eq_true h20] at t2
    refine ev_sSeq_rt ?_
    unfold m_law_word_at_3t2
    rw [ev_if_t t2]
    simp [b_law_word_at_3t2t, m_law_word_at_3t2t1, lW, fz 2]
  rw [if_neg h20]
  rw [decide_eq_false h20] at t2
  have a3 : m_law_word_at_3t3 (eW t i (some (.str (tx ((t.drop i).take n)))) none none none none none) st = some (.nx (eW t i (some (.str (tx ((t.drop i).take n)))) (some (.int ((i + n : Nat) : Int))) none none none none), st) := by
    simp [m_law_word_at_3t3, eW, lw]
  rw [ev_sSeq (show m_law_word_at_3t2 _ _ = _ from (ev_if_f t2).trans ev_sNil), ev_sSeq a3]
  have s1 : oSl (.str (tx t)) (some ((i + n : Nat) : Int)) (some (((i + n : Nat) : Int) + 1)) st = some (.str (tx (t[i + n]?).toList), st) := sl_one hl rfl rfl
  have s2 : oSl (.str (tx t)) (some (((i + n : Nat) : Int) + 1)) (some (((i + n : Nat) : Int) + 2)) st = some (.str (tx (t[i + (n + 1)]?).toList), st) := sl_one (a := i + (n + 1)) hl (by omega) (by omega)
  have ts : fTupleS [.str sLt] st = some (.tup (sgnsD sLt), st) := by
    have := sizeLine_big
    show (if sLt.cps.size ≤ sizeLine then some (D.tup (sgnsD sLt), st) else none) = _
    rw [if_pos]
    have : sLt.cps.size = 52 := by decide +kernel
    omega
  have t4 : t_law_word_at_3t4 (eW t i (some (.str (tx ((t.drop i).take n)))) (some (.int ((i + n : Nat) : Int))) none none none none) st = some (.ok (decide (isG c = true ∧ t[i + n]? = some 46 ∧ (t[i + (n + 1)]?).any isL = true)), st) := by
    unfold t_law_word_at_3t4
    cases hG : isG c with
    | false =>
      rw [ev_and_f (st1 := st) (by simp [eW, ix_tx hl hc, g_great_signs, in_tx, m_great, hG, -Array.mem_toList_iff])]
      simp
    | true =>
      rw [ev_and_t (st1 := st) (by simp [eW, ix_tx hl hc, g_great_signs, in_tx, m_great, hG, -Array.mem_toList_iff])]
      by_cases h46 : t[i + n]? = some 46
      · rw [ev_and_t (st1 := st) (by simp [-Int.natCast_add, eW, s1, dot_tx, h46])]
        simp [-Int.natCast_add, eW, s2, ts, in_letters, h46]
      · rw [ev_and_f (st1 := st) (by simp [-Int.natCast_add, eW, s1, dot_tx, tx_one, h46])]
        simp [h46]
  by_cases h4 : isG c = true ∧ t[i + n]? = some 46 ∧ (t[i + (n + 1)]?).any isL = true
  · rw [if_pos h4]
    rw [decide_eq_true h4] at t4
    have hlt : i + (n + 1) < t.length := by
      have := h4.2.2
      cases q : t[i + (n + 1)]? with
      | none => rw [q] at this; exact absurd this (by decide)
      | some d => exact (List.getElem?_eq_some_iff.mp q).1
    have r5 := g_law_run_from (st := st) hl (z := sBh) (fun _ => m_beh) (i := i + (n + 1)) (by omega)
    have hw5 : (t.drop (i + (n + 1))).takeWhile isB = (t.drop (i + (n + 1))).take (nB (t.drop (i + (n + 1)))) := tw_take _
    rw [hw5] at r5
    have hwl5 : ((t.drop (i + (n + 1))).take (nB (t.drop (i + (n + 1))))).length = nB (t.drop (i + (n + 1))) := by
      have := tw_le (p := isB) (t.drop (i + (n + 1)))
      rw [List.length_take]
      unfold nB
      omega
    have hle5 : nB (t.drop (i + (n + 1))) ≤ 2000 := by
      have := tw_le (p := isB) (t.drop (i + (n + 1)))
      simp only [List.length_drop] at this
      unfold nB
      omega
    generalize hm : nB (t.drop (i + (n + 1))) = m at *
    replace r5 : G_law_run_from [.str (tx t), .int (((i + n : Nat) : Int) + 1), .str sBh] st = some (.str (tx ((t.drop (i + (n + 1))).take m)), st) := r5
    have lw5 : fLen [.str (tx ((t.drop (i + (n + 1))).take m))] st = some (.int m, st) := by
      rw [len_tx (by omega), hwl5]
    refine ev_sSeq_rt ?_
    unfold m_law_word_at_3t4
    rw [ev_if_t t4]
    unfold b_law_word_at_3t4t
    have a41 : m_law_word_at_3t4t1 (eW t i (some (.str (tx ((t.drop i).take n)))) (some (.int ((i + n : Nat) : Int))) none none none none) st = some (.nx (eW t i (some (.str (tx ((t.drop i).take n)))) (some (.int ((i + n : Nat) : Int))) (some (.str (tx ((t.drop (i + (n + 1))).take m)))) none none none), st) := by
      simp [-Int.natCast_add, m_law_word_at_3t4t1, eW, r5]
    have t42 : t_law_word_at_3t4t2 (eW t i (some (.str (tx ((t.drop i).take n)))) (some (.int ((i + n : Nat) : Int))) (some (.str (tx ((t.drop (i + (n + 1))).take m)))) none none none) st = some (.ok (decide (20 < m ∨ tx ((t.drop (i + (n + 1))).take m) ∈ BARR)), st) := by
      unfold t_law_word_at_3t4t2
      have e : decide ((20 : Int) < (m : Int)) = decide (20 < m) := decide_eq_decide.mpr (by omega)
      by_cases h20 : 20 < m
      · rw [ev_or_t (st1 := st) (by simp [eW, lw5, e, h20])]
        simp [h20]
      · rw [ev_or_f (st1 := st) (by simp [eW, lw5, e, h20])]
        rw [show (decide (20 < m ∨ tx ((t.drop (i + (n + 1))).take m) ∈ BARR)) = decide (tx ((t.drop (i + (n + 1))).take m) ∈ BARR) from decide_eq_decide.mpr ⟨fun h => h.resolve_left h20, .inr⟩]
        simp [eW, g_barred, ev_inStrL]
    rw [ev_sSeq a41]
    have big := sizeLine_big
    by_cases h6 : 20 < m ∨ tx ((t.drop (i + (n + 1))).take m) ∈ BARR
    · rw [if_pos h6]
      rw [decide_eq_true h6] at t42
      refine ev_sSeq_rt ?_
      unfold m_law_word_at_3t4t2
      rw [ev_if_t t42]
      simp [b_law_word_at_3t4t2t, m_law_word_at_3t4t2t1, lW, eW, lw, fz 2]
    · rw [if_neg h6]
      rw [decide_eq_false h6] at t42
      rw [ev_sSeq (show m_law_word_at_3t4t2 _ _ = _ from (ev_if_f t42).trans ev_sNil)]
      have hm20 : m ≤ 20 := by
        by_cases h : 20 < m
        · exact absurd (.inl h) h6
        · omega
      have cat1 : oAdd (.str (tx ((t.drop i).take n))) (.str (tx [46])) st = some (.str (tx ((t.drop i).take n ++ [46])), st) := add_tx (by rw [hwl]; simp; omega)
      have cat2 : oAdd (.str (tx ((t.drop i).take n ++ [46]))) (.str (tx ((t.drop (i + (n + 1))).take m))) st = some (.str (tx ((t.drop i).take n ++ [46] ++ (t.drop (i + (n + 1))).take m)), st) := add_tx (by rw [List.length_append, hwl, hwl5]; simp; omega)
      have whole : (t.drop i).take n ++ [46] ++ (t.drop (i + (n + 1))).take m = (t.drop i).take (n + 1 + m) := by
        rw [List.append_assoc, List.take_add, List.take_add, List.append_assoc]
        congr 1
        rw [hg2, hg2, drop_cons h4.2.1]
        rfl
      rw [whole] at cat2
      simp [m_law_word_at_3t4t3, eW, dot_tx, cat1, cat2, lW, fz 2]
  · rw [if_neg h4]
    rw [decide_eq_false h4] at t4
    rw [ev_sSeq (show m_law_word_at_3t4 _ _ = _ from (ev_if_f t4).trans ev_sNil)]
    have big := sizeLine_big
    simp [m_law_word_at_3t5, eW, lW, fz 2]
end
end K06
end FW

set_option maxHeartbeats 4000000
namespace FW
namespace K06
open PySem PySem.Spec L2

section
variable {t : List Nat} {st : Store}
def badL (hd f : List Nat) : Prop := f = [] ∨ (1 < f.length ∧ f.head? = some 48) ∨ (hd = [126] ∧ f = [48])
instance {hd f : List Nat} : Decidable (badL hd f) := by unfold badL; infer_instance
theorem tx_dec (a b : List Nat) : decide (tx a = tx b) = decide (a = b) := decide_eq_decide.mpr tx_eq
theorem t43 {i : Nat} {hd f : List Nat} (hl : f.length ≤ 2000) : t_law_word_at_4t3 (eW t i none none none (some (.str (tx hd))) (some (.str (tx f))) none) st = some (.ok (decide (badL hd f)), st) := by
  unfold t_law_word_at_4t3
  by_cases h0 : f = []
  · subst h0
    rw [ev_or_t (st1 := st) (by simp [eW, tx_nil])]
    simp [badL]
  rw [ev_or_f (st1 := st) (by simp [eW, tx_nil, tx_dec, h0])]
  have e1 : decide ((1 : Int) < (f.length : Int)) = decide (1 < f.length) := decide_eq_decide.mpr (by omega)
  obtain ⟨c, r, rfl⟩ : ∃ c r, f = c :: r := by
    cases f with
    | nil => exact absurd rfl h0
    | cons c r => exact ⟨c, r, rfl⟩
  by_cases h1 : 1 < (c :: r).length
  · have i0 : oIx (.str (tx (c :: r))) (.int 0) st = some (.str (tx [c]), st) := ix_at (i := 0) hl rfl rfl
    by_cases h48 : c = 48
    · subst h48
      rw [ev_or_t (st1 := st) (by
        rw [ev_and_t (st1 := st) (by simp only [ev_xTst, ev_x2, ev_xN, ev_aC, ev_xV (show (eW t i none none none (some (.str (tx hd))) (some (.str (tx (48 :: r)))) none)[8]? = some (some (.str (tx (48 :: r)))) from rfl), ev_bnd_ok, ev_aN, len_tx hl, ev_ok0, ev_xC, ev_cmpI, e1, decide_eq_true h1])]
        simp [eW, i0, zero_tx])]
      rw [decide_eq_true (.inr (.inl ⟨h1, rfl⟩))]
    · rw [ev_or_f (st1 := st) (by
        rw [ev_and_t (st1 := st) (by simp only [ev_xTst, ev_x2, ev_xN, ev_aC, ev_xV (show (eW t i none none none (some (.str (tx hd))) (some (.str (tx (c :: r)))) none)[8]? = some (some (.str (tx (c :: r)))) from rfl), ev_bnd_ok, ev_aN, len_tx hl, ev_ok0, ev_xC, ev_cmpI, e1, decide_eq_true h1])]
        simp [eW, i0, zero_tx, one_eq, h48])]
      have hb : ¬ badL hd (c :: r) := by
        rintro (h | ⟨_, h⟩ | ⟨_, h⟩)
        · exact h0 h
        · exact h48 (by simpa using h)
        · exact h48 (by simpa using (List.cons.inj h).1)
      rw [decide_eq_false hb]
      by_cases hh : hd = [126]
      · rw [ev_and_t (st1 := st) (by simp [eW, tilde_tx, tx_dec, hh])]
        have : ¬ (c :: r) = [48] := fun h => h48 (List.cons.inj h).1
        simp [eW, zero_tx, tx_dec, -List.cons.injEq, this]
      · rw [ev_and_f (st1 := st) (by simp [eW, tilde_tx, tx_dec, hh])]
  · have hr : r = [] := by
      cases r with
      | nil => rfl
      | cons d r => simp at h1
    subst hr
    rw [ev_or_f (st1 := st) (by
      rw [ev_and_f (st1 := st) (by simp [eW, len_tx (show [c].length ≤ 2000 by simp)])])]
    by_cases hh : hd = [126]
    · rw [ev_and_t (st1 := st) (by simp [eW, tilde_tx, tx_dec, hh])]
      simp [eW, zero_tx, tx_dec, badL, hh]
    · rw [ev_and_f (st1 := st) (by simp [eW, tilde_tx, tx_dec, hh])]
      simp [badL, hh]
theorem two_eq (a b : Nat) : tx [a, b] = tx [126, 63] ↔ a = 126 ∧ b = 63 := by rw [tx_eq]; simp
theorem tq_tx : ("~?" : Str) = tx [126, 63] := by decide +kernel
/-- the branch of numbers and variables; hd: the sign ahead -/
theorem law_num (hl : t.length ≤ 2000) {i c : Nat} (hc : t[i]? = some c) {hd f : List Nat} (hhd : hd = if c = 126 ∨ c = 63 then [c] else []) (hf : (t.drop (i + hd.length)).takeWhile isF = f) :
    b_law_word_at_4t (eW t i none none none none none none) st = some (.rt (if badL hd f then .tup [.non, .int 0] else if hd = [63] then (if 9 < f.length then .tup [.non, .int 0] else .tup [.str (tx (63 :: f)), .non])
      else if f.length ≤ 10 ∧ NumText.digitsVal f ≤ 2147483647 + (decide (hd = [126])).toNat then .tup [.str (tx (hd ++ f)), .non] else .tup [.non, .int 0]), st) := by
  have hi : i < t.length := (List.getElem?_eq_some_iff.mp hc).1
  have hfl : f.length ≤ 2000 := by
    have := tw_le (p := isF) (t.drop (i + hd.length))
    rw [hf, List.length_drop] at this
    omega
  have hall : ∀ z ∈ f, isF z = true := by rw [← hf]; exact tw_all _
  have inq : oInS1 false (.str (tx [c])) (.str "~?") st = some (.bl (decide (c = 126 ∨ c = 63)), st) := by
    rw [in_tx, tq_tx, tx_list]
    simp
  have hdl : hd.length ≤ 1 := by rw [hhd]; split <;> simp
  have a1 : m_law_word_at_4t1 (eW t i none none none none none none) st = some (.nx (eW t i none none none (some (.str (tx hd))) none none), st) := by
    unfold m_law_word_at_4t1
    by_cases h : c = 126 ∨ c = 63
    · rw [if_pos h] at hhd
      subst hhd
      rw [ev_sAsg, ev_xIf_t (st1 := st) (by simp [eW, ix_tx hl hc, inq, h])]
      simp [eW, ix_tx hl hc]
    · rw [if_neg h] at hhd
      subst hhd
      rw [ev_sAsg, ev_xIf_f (st1 := st) (by simp [eW, ix_tx hl hc, inq, h])]
      simp [eW, tx_nil]
  have r2 := g_law_run_from (st := st) hl (fun _ => m_fig) (i := i + hd.length) (by omega)
  rw [hf] at r2
  have a2 : m_law_word_at_4t2 (eW t i none none none (some (.str (tx hd))) none none) st = some (.nx (eW t i none none none (some (.str (tx hd))) (some (.str (tx f))) none), st) := by
    have e : ((i : Int) + (hd.length : Int)) = ((i + hd.length : Nat) : Int) := by omega
    simp [m_law_word_at_4t2, eW, len_tx (show hd.length ≤ 2000 by omega), g_figures]
    rw [e, r2]
    rfl
  have z2 := fz 2
  unfold b_law_word_at_4t
  rw [ev_sSeq a1, ev_sSeq a2]
  have t3 := t43 (t := t) (st := st) (i := i) (hd := hd) hfl
  by_cases hb : badL hd f
  · rw [if_pos hb]
    rw [decide_eq_true hb] at t3
    refine ev_sSeq_rt ?_
    unfold m_law_word_at_4t3
    rw [ev_if_t t3]
    simp [b_law_word_at_4t3t, m_law_word_at_4t3t1, z2]
  rw [if_neg hb]
  rw [decide_eq_false hb] at t3
  rw [ev_sSeq (show m_law_word_at_4t3 _ _ = _ from (ev_if_f t3).trans ev_sNil)]
  have h0 : f ≠ [] := fun h => hb (.inl h)
  have t4 : t_law_word_at_4t4 (eW t i none none none (some (.str (tx hd))) (some (.str (tx f))) none) st = some (.ok (decide (hd = [63])), st) := by
    simp [t_law_word_at_4t4, eW, que_tx, tx_dec]
  by_cases h63 : hd = [63]
  · rw [if_pos h63]
    rw [decide_eq_true h63] at t4
    refine ev_sSeq_rt ?_
    unfold m_law_word_at_4t4
    rw [ev_if_t t4]
    unfold b_law_word_at_4t4t m_law_word_at_4t4t1
    by_cases h9 : 9 < f.length
    · rw [if_pos h9, ev_sRet, ev_xIf_t (st1 := st) (by simp [eW, len_tx hfl]; omega)]
      simp [z2]
    · rw [if_neg h9, ev_sRet, ev_xIf_f (st1 := st) (by simp [eW, len_tx hfl]; omega)]
      have cat : oAdd (.str (tx [63])) (.str (tx f)) st = some (.str (tx (63 :: f)), st) := add_tx (by simp; omega)
      simp [eW, que_tx, cat, z2]
  rw [if_neg h63]
  rw [decide_eq_false h63] at t4
  rw [ev_sSeq (show m_law_word_at_4t4 _ _ = _ from (ev_if_f t4).trans ev_sNil)]
  have a5 : m_law_word_at_4t5 (eW t i none none none (some (.str (tx hd))) (some (.str (tx f))) none) st = some (.nx (eW t i none none none (some (.str (tx hd))) (some (.str (tx f))) (some (.int (if f.length < 12 then (NumText.digitsVal f : Nat) else (1000000000000 : Nat) : Nat)))), st) := by
    unfold m_law_word_at_4t5
    by_cases h12 : f.length < 12
    · rw [if_pos h12, ev_sAsg, ev_xIf_t (st1 := st) (by simp [eW, len_tx hfl]; omega)]
      simp [eW, int_fig hall h0 (by omega)]
    · rw [if_neg h12, ev_sAsg, ev_xIf_f (st1 := st) (by simp [eW, len_tx hfl]; omega)]
      simp [eW, big12]
  rw [ev_sSeq a5]
  have ht : ∀ n : Nat, xTst (x2 oLeA (xV 9) (x2 oAdd (xC (.int 2147483647)) (xN fIntS (aC (x2 oEqA (xV 7) (xC (.str "~"))) aN)))) (eW t i none none none (some (.str (tx hd))) (some (.str (tx f))) (some (.int (n : Int)))) st = some (.ok (decide (n ≤ 2147483647 + (decide (hd = [126])).toNat)), st) := by
    intro n
    have : decide ((n : Int) ≤ 2147483647 + (((decide (hd = [126])).toNat : Nat) : Int)) = decide (n ≤ 2147483647 + (decide (hd = [126])).toNat) := decide_eq_decide.mpr (by omega)
    simp [eW, tilde_tx, tx_dec, this]
  have g1 : (decide (hd = [126])).toNat ≤ 1 := by cases decide (hd = [126]) <;> decide
  by_cases hk : f.length ≤ 10 ∧ NumText.digitsVal f ≤ 2147483647 + (decide (hd = [126])).toNat
  · rw [if_pos hk]
    rw [if_pos (show f.length < 12 by omega)]
    have t6 := ht (NumText.digitsVal f)
    rw [decide_eq_true hk.2] at t6
    have cat : oAdd (.str (tx hd)) (.str (tx f)) st = some (.str (tx (hd ++ f)), st) := add_tx (by omega)
    unfold m_law_word_at_4t6
    rw [ev_sRet, ev_xIf_t t6]
    simp [eW, cat, z2]
  · rw [if_neg hk]
    have hbig : 2147483647 + (decide (hd = [126])).toNat < (if f.length < 12 then NumText.digitsVal f else 1000000000000) := by
      split
      · by_cases h10 : f.length ≤ 10
        · have : ¬ NumText.digitsVal f ≤ 2147483647 + (decide (hd = [126])).toNat := fun h => hk ⟨h10, h⟩
          omega
        · have := dv_big hall (by omega) (fun h => hb (.inr (.inl ⟨by omega, h⟩)))
          omega
      · omega
    have t6 := ht (if f.length < 12 then NumText.digitsVal f else 1000000000000)
    rw [decide_eq_false (by omega)] at t6
    unfold m_law_word_at_4t6
    rw [ev_sRet, ev_xIf_f t6]
    simp [z2]
end
end K06
end FW

set_option maxHeartbeats 4000000
namespace FW
namespace K06
open PySem PySem.Spec L2

section
variable {t : List Nat} {st : Store}
theorem arrow_tx : ("->" : Str) = tx [45, 62] := by decide +kernel
theorem lone_tx : ("-=<+*(){},.|:_" : Str) = tx [45, 61, 60, 43, 42, 40, 41, 123, 125, 44, 46, 124, 58, 95] := by decide +kernel
theorem not_let {c : Nat} (h : isF c = true) : isL c = false ∧ c ≠ 126 ∧ c ≠ 63 ∧ c ≠ 45 := by
  unfold isF at h
  unfold isL isS isG
  simp at h
  refine ⟨?_, by omega, by omega, by omega⟩
  simp
  omega
/-- the law's worth of a run of figures is the program's -/
theorem num_same {s f hd : List Nat} {g : Bool} (hg : g = decide (hd = [126])) (h63 : hd ≠ [63]) (hall : ∀ z ∈ f, isF z = true) (hs : s.take (g.toNat + f.length) = hd ++ f) :
    (if badL hd f then D.tup [.non, .int 0] else if hd = [63] then (if 9 < f.length then .tup [.non, .int 0] else .tup [.str (tx (63 :: f)), .non])
      else if f.length ≤ 10 ∧ NumText.digitsVal f ≤ 2147483647 + (decide (hd = [126])).toNat then .tup [.str (tx (hd ++ f)), .non] else .tup [.non, .int 0]) = lW s (wNum f g) := by
  rw [if_neg h63, ← hg]
  unfold wNum
  by_cases hb : badL hd f
  · rw [if_pos hb, if_pos (by
      rcases hb with h | ⟨h1, h2⟩ | ⟨h1, h2⟩
      · exact .inl (.inl h)
      · exact .inl (.inr ⟨h2, h1⟩)
      · exact .inr (.inr (.inl ⟨by rw [hg, decide_eq_true h1], by rw [h2]; rfl⟩)))]
    rfl
  · rw [if_neg hb]
    by_cases hk : f.length ≤ 10 ∧ NumText.digitsVal f ≤ 2147483647 + g.toNat
    · rw [if_pos hk, if_neg (by
        rintro (h | h | ⟨h1, h2⟩ | h)
        · rcases h with h | ⟨h1, h2⟩
          · exact hb (.inl h)
          · exact hb (.inr (.inl ⟨h2, h1⟩))
        · omega
        · rw [hg] at h1
          have h1 := of_decide_eq_true h1
          by_cases h3 : 1 < f.length
          · exact hb (.inr (.inl ⟨h3, h2⟩))
          · refine hb (.inr (.inr ⟨h1, ?_⟩))
            cases f with
            | nil => exact absurd rfl (fun e => hb (.inl e))
            | cons c r =>
              have : r = [] := by cases r with
                | nil => rfl
                | cons d r => simp at h3
              subst this
              simp at h2
              rw [h2]
        · omega)]
      show _ = D.tup [.str (tx (s.take (g.toNat + f.length))), .non]
      rw [hs]
    · rw [if_neg hk, if_pos (by
        by_cases h10 : f.length ≤ 10
        · exact .inr (.inr (.inr (by
            rcases Nat.lt_or_ge (2147483647 + g.toNat) (NumText.digitsVal f) with h | h
            · exact h
            · exact absurd ⟨h10, h⟩ hk)))
        · exact .inr (.inl (by omega)))]
      rfl
theorem var_same {s f : List Nat} (hs : s.take (1 + f.length) = 63 :: f) :
    (if badL [63] f then D.tup [.non, .int 0] else if ([63] : List Nat) = [63] then (if 9 < f.length then .tup [.non, .int 0] else .tup [.str (tx (63 :: f)), .non])
      else if f.length ≤ 10 ∧ NumText.digitsVal f ≤ 2147483647 + (decide (([63] : List Nat) = [126])).toNat then .tup [.str (tx ([63] ++ f)), .non] else .tup [.non, .int 0]) = lW s (wVar f) := by
  unfold wVar
  by_cases hb : badL [63] f
  · rw [if_pos hb, if_pos (by
      rcases hb with h | ⟨h1, h2⟩ | ⟨h1, h2⟩
      · exact .inl (.inl h)
      · exact .inl (.inr ⟨h2, h1⟩)
      · exact absurd h1 (by decide))]
    rfl
  · rw [if_neg hb, if_pos rfl]
    have nb : ¬ bad f := by
      rintro (h | ⟨h1, h2⟩)
      · exact hb (.inl h)
      · exact hb (.inr (.inl ⟨h2, h1⟩))
    by_cases h9 : 9 < f.length
    · rw [if_pos h9, if_pos (.inr h9)]
      rfl
    · rw [if_neg h9, if_neg (fun h => h.elim nb h9)]
      show _ = D.tup [.str (tx (s.take (1 + f.length))), .non]
      rw [hs]
theorem take_run {l : List Nat} {p : Nat → Bool} : l.take (l.takeWhile p).length = l.takeWhile p := (tw_take l).symm
theorem g_law_word_at (hl : t.length ≤ 2000) {i c : Nat} (hc : t[i]? = some c) : G_law_word_at [.str (tx t), .int (i : Int)] st = some (lW (t.drop i) (wd (t.drop i)), st) := by
  have hi : i < t.length := (List.getElem?_eq_some_iff.mp hc).1
  have e0 : env0 10 [D.str (tx t), .int (i : Int)] = [some (.str (tx t)), some (.int (i : Int)), none, none, none, none, none, none, none, none] := rfl
  have a1 : m_law_word_at_1 [some (.str (tx t)), some (.int (i : Int)), none, none, none, none, none, none, none, none] st = some (.nx [some (.str (tx t)), some (.int (i : Int)), some (.str sLt), none, none, none, none, none, none, none], st) := by
    simp [m_law_word_at_1, g_small_signs, g_great_signs, ev_lt]
  have a2 : m_law_word_at_2 [some (.str (tx t)), some (.int (i : Int)), some (.str sLt), none, none, none, none, none, none, none] st = some (.nx (eW t i none none none none none none), st) := by
    simp [m_law_word_at_2, g_figures, (ev_bh st).1, (ev_bh st).2]
  refine runF_rt ?_
  unfold m_law_word_at
  rw [e0, ev_sSeq a1, ev_sSeq a2]
  have hd := drop_cons hc
  have t3 : t_law_word_at_3 (eW t i none none none none none none) st = some (.ok (isL c), st) := by
    simp [t_law_word_at_3, eW, ix_tx hl hc, in_tx, m_let, -Array.mem_toList_iff]
  have z2 := fz 2
  by_cases hL : isL c = true
  · rw [hL] at t3
    refine ev_sSeq_rt ?_
    unfold m_law_word_at_3
    rw [ev_if_t t3, law_name hl hc hL, hd, wd_cons, if_pos hL]
  rw [Bool.eq_false_iff.mpr hL] at t3
  rw [ev_sSeq (show m_law_word_at_3 _ _ = _ from (ev_if_f t3).trans ev_sNil)]
  have inq : oInS1 false (.str (tx [c])) (.str "~?") st = some (.bl (decide (c = 126 ∨ c = 63)), st) := by
    rw [in_tx, tq_tx, tx_list]
    simp
  have t4 : t_law_word_at_4 (eW t i none none none none none none) st = some (.ok (decide (c = 126 ∨ c = 63) || isF c), st) := by
    unfold t_law_word_at_4
    by_cases h : c = 126 ∨ c = 63
    · rw [ev_or_t (st1 := st) (by simp [eW, ix_tx hl hc, inq, h])]
      rw [decide_eq_true h]
      rfl
    · rw [ev_or_f (st1 := st) (by simp [eW, ix_tx hl hc, inq, h])]
      rw [decide_eq_false h]
      simp [eW, ix_tx hl hc, g_figures, in_tx, m_fig, -Array.mem_toList_iff]
  rw [hd, wd_cons, if_neg hL]
  by_cases hF : isF c = true
  · obtain ⟨_, n1, n2, n3⟩ := not_let hF
    rw [if_pos hF]
    rw [hF, Bool.or_true] at t4
    refine ev_sSeq_rt ?_
    unfold m_law_word_at_4
    rw [ev_if_t t4, law_num hl hc (hd := []) (f := (t.drop i).takeWhile isF) (by rw [if_neg (fun h => h.elim n1 n2)]) rfl]
    rw [num_same (s := t.drop i) (g := false) rfl (by simp) (tw_all _) (by
      rw [show false.toNat + ((t.drop i).takeWhile isF).length = ((t.drop i).takeWhile isF).length by simp, take_run]
      rfl), hd]
  rw [if_neg hF]
  rw [Bool.eq_false_iff.mpr hF, Bool.or_false] at t4
  by_cases h126 : c = 126
  · subst h126
    rw [if_pos rfl]
    refine ev_sSeq_rt ?_
    unfold m_law_word_at_4
    rw [ev_if_t t4, law_num hl hc (hd := [126]) (f := (t.drop (i + 1)).takeWhile isF) rfl rfl]
    rw [num_same (s := t.drop i) (g := true) rfl (by simp) (tw_all _) (by
      rw [hd, show true.toNat + ((t.drop (i + 1)).takeWhile isF).length = ((t.drop (i + 1)).takeWhile isF).length + 1 by simp [Nat.add_comm], List.take_succ_cons, take_run]
      rfl), hd]
  rw [if_neg h126]
  by_cases h63 : c = 63
  · subst h63
    rw [if_pos rfl]
    refine ev_sSeq_rt ?_
    unfold m_law_word_at_4
    rw [ev_if_t t4, law_num hl hc (hd := [63]) (f := (t.drop (i + 1)).takeWhile isF) rfl rfl]
    rw [var_same (s := t.drop i) (by
      rw [hd, show 1 + ((t.drop (i + 1)).takeWhile isF).length = ((t.drop (i + 1)).takeWhile isF).length + 1 by omega, List.take_succ_cons, take_run]), hd]
  rw [if_neg h63]
  rw [decide_eq_false (fun h => h.elim h126 h63)] at t4
  rw [ev_sSeq (show m_law_word_at_4 _ _ = _ from (ev_if_f t4).trans ev_sNil)]
  have s2 : oSl (.str (tx t)) (some (i : Int)) (some ((i : Int) + 2)) st = some (.str (tx ((t.drop i).take 2)), st) := sl_n (a := i) (b := i + 2) hl rfl (by omega) rfl
  have hhd : (t.drop (i + 1)).head? = t[i + 1]? := by rw [List.head?_drop]
  rw [hhd]
  have e2 : (t.drop i).take 2 = c :: (t[i + 1]?).toList := by
    rw [hd, List.take_succ_cons, take1]
  have t5 : t_law_word_at_5 (eW t i none none none none none none) st = some (.ok (decide (c = 45 ∧ t[i + 1]? = some 62)), st) := by
    have : decide (tx (c :: (t[i + 1]?).toList) = tx [45, 62]) = decide (c = 45 ∧ t[i + 1]? = some 62) := by
      refine decide_eq_decide.mpr ?_
      rw [tx_eq]
      cases t[i + 1]? <;> simp
    rw [← this]
    simp [t_law_word_at_5, eW, s2, e2, arrow_tx]
  have t6 : (xTst (x2 (oInS1 false) (x2 oIx (xV 0) (xV 1)) (xC (.str "-=<+*(){},.|:_")))) (eW t i none none none none none none) st = some (.ok (decide (c = 45) || isA c), st) := by
    have : decide (c ∈ ("-=<+*(){},.|:_" : Str).cps.toList) = (decide (c = 45) || isA c) := by
      rw [lone_tx, tx_list]
      unfold isA
      rw [Bool.eq_iff_iff]
      simp
    simp [eW, ix_tx hl hc, in_tx, this, -Array.mem_toList_iff]
  by_cases h5 : c = 45 ∧ t[i + 1]? = some 62
  · rw [decide_eq_true h5] at t5
    obtain ⟨rfl, h62⟩ := h5
    rw [if_pos rfl, if_pos h62]
    refine ev_sSeq_rt ?_
    unfold m_law_word_at_5
    rw [ev_if_t t5]
    have : (45 :: t.drop (i + 1)).take 2 = [45, 62] := by
      rw [← hd, e2, h62]
      rfl
    simp [b_law_word_at_5t, m_law_word_at_5t1, z2, lW, this, arrow_tx]
  rw [decide_eq_false h5] at t5
  rw [ev_sSeq (show m_law_word_at_5 _ _ = _ from (ev_if_f t5).trans ev_sNil)]
  unfold m_law_word_at_6
  by_cases h45 : c = 45
  · subst h45
    rw [if_pos rfl, if_neg (fun h => h5 ⟨rfl, h⟩), ev_sRet, ev_xIf_t t6]
    simp [eW, ix_tx hl hc, z2, lW]
  · rw [if_neg h45]
    rw [decide_eq_false h45, Bool.false_or] at t6
    by_cases hA : isA c = true
    · rw [hA] at t6
      rw [if_pos hA, ev_sRet, ev_xIf_t t6]
      simp [eW, ix_tx hl hc, z2, lW]
    · rw [Bool.eq_false_iff.mpr hA] at t6
      rw [if_neg hA, ev_sRet, ev_xIf_f t6]
      simp [z2, lW]
end
end K06
end FW

set_option maxHeartbeats 4000000
namespace FW
namespace K06
open PySem PySem.Spec L2

/-- where a line ends -/
def Rest (rest : List Nat) : Prop := rest = [] ∨ ∃ b, rest = 10 :: b
theorem Rest.get {rest : List Nat} (h : Rest rest) {d : Nat} (hd : d ≠ 10) : rest[0]? ≠ some d := by
  rcases h with rfl | ⟨b, rfl⟩
  · simp
  · simp
    exact fun e => hd e.symm
theorem get_loc {s rest : List Nat} (hr : Rest rest) {k d : Nat} (hk : k ≤ s.length) (hd : d ≠ 10) : (s ++ rest)[k]? = some d ↔ s[k]? = some d := by
  by_cases h : k < s.length
  · rw [List.getElem?_append_left h]
  · have e : k = s.length := by omega
    subst e
    rw [List.getElem?_append_right (Nat.le_refl _), Nat.sub_self]
    constructor
    · intro q; exact absurd q (hr.get hd)
    · intro q; simp at q
theorem any_loc {s rest : List Nat} (hr : Rest rest) {k : Nat} (hk : k ≤ s.length) : ((s ++ rest)[k]?).any isL = (s[k]?).any isL := by
  by_cases h : k < s.length
  · rw [List.getElem?_append_left h]
  · have e : k = s.length := by omega
    subst e
    rw [List.getElem?_append_right (Nat.le_refl _), Nat.sub_self]
    rcases hr with rfl | ⟨b, rfl⟩
    · simp
    · simp
      decide
theorem nB_loc {s rest : List Nat} (hr : Rest rest) : nB (s ++ rest) = nB s := by
  unfold nB
  rw [tw_loc (by decide) hr]
theorem nB_le (s : List Nat) : nB s ≤ s.length := tw_le s
theorem wName_loc {s rest : List Nat} (hr : Rest rest) (g : Bool) : wName (s ++ rest) g = wName s g := by
  unfold wName
  rw [nB_loc hr]
  have hn := nB_le s
  generalize nB s = n at *
  by_cases h20 : 20 < n
  · rw [if_pos h20, if_pos h20]
  · rw [if_neg h20, if_neg h20]
    by_cases h46 : s[n]? = some 46
    · have hlt : n < s.length := (List.getElem?_eq_some_iff.mp h46).1
      have e1 : (s ++ rest)[n]? = some 46 := (get_loc hr hn (by decide)).mpr h46
      rw [any_loc hr (show n + 1 ≤ s.length by omega), e1, h46]
      by_cases h : g = true ∧ some 46 = some 46 ∧ (s[n + 1]?).any isL = true
      · rw [if_pos h, if_pos h]
        have e2 : (s ++ rest).drop (n + 1) = s.drop (n + 1) ++ rest := List.drop_append_of_le_length (by omega)
        rw [e2, nB_loc hr, List.take_append_of_le_length (nB_le _)]
      · rw [if_neg h, if_neg h]
    · have e1 : ¬ (s ++ rest)[n]? = some 46 := fun h => h46 ((get_loc hr hn (by decide)).mp h)
      rw [if_neg (fun h => e1 h.2.1), if_neg (fun h => h46 h.2.1)]
/-- a word does not look beyond its line -/
theorem wd_loc {s rest : List Nat} (hs : s ≠ []) (hr : Rest rest) : wd (s ++ rest) = wd s := by
  cases s with
  | nil => exact absurd rfl hs
  | cons c r =>
    rw [List.cons_append, wd_cons, wd_cons, ← List.cons_append, wName_loc hr, tw_loc (by decide) hr, tw_loc (by decide) hr]
    have : (r ++ rest).head? = some 62 ↔ r.head? = some 62 := by
      have := get_loc (s := r) hr (k := 0) (d := 62) (Nat.zero_le _) (by decide)
      rw [List.head?_eq_getElem?, List.head?_eq_getElem?]
      exact this
    by_cases h : r.head? = some 62
    · rw [if_pos (this.mpr h), if_pos h]
    · rw [if_neg (fun q => h (this.mp q)), if_neg h]
theorem ok_inj {a b : Nat} (h : W.ok a = W.ok b) : a = b := by cases h; rfl
theorem wName_bd {c n : Nat} {r : List Nat} {g : Bool} (hL : isL c = true) (h : wName (c :: r) g = .ok n) : 1 ≤ n ∧ n ≤ (c :: r).length := by
  have h1 : 1 ≤ nB (c :: r) := by
    unfold nB
    rw [List.takeWhile_cons, if_pos (let_behind hL)]
    simp
  have h2 := nB_le (c :: r)
  unfold wName at h
  split at h
  · cases h
  · split at h
    · rename_i hc
      have hlt : nB (c :: r) < (c :: r).length := (List.getElem?_eq_some_iff.mp hc.2.1).1
      split at h
      · cases h
      · have := ok_inj h
        have h3 := nB_le ((c :: r).drop (nB (c :: r) + 1))
        rw [List.length_drop] at h3
        omega
    · have := ok_inj h
      omega
theorem wNum_bd {f : List Nat} {g : Bool} {n : Nat} (h : wNum f g = .ok n) : 1 ≤ f.length ∧ n = g.toNat + f.length := by
  unfold wNum at h
  split at h
  · cases h
  · rename_i hb
    refine ⟨?_, (ok_inj h).symm⟩
    have : f ≠ [] := fun e => hb (.inl (.inl e))
    exact List.length_pos_iff.mpr this
theorem wVar_bd {f : List Nat} {n : Nat} (h : wVar f = .ok n) : n = 1 + f.length := by
  unfold wVar at h
  split at h
  · cases h
  · exact (ok_inj h).symm
theorem wd_bd {s : List Nat} {n : Nat} (h : wd s = .ok n) : 1 ≤ n ∧ n ≤ s.length := by
  cases s with
  | nil => cases h
  | cons c r =>
    rw [wd_cons] at h
    have hr := tw_le (p := isF) r
    have hcr := tw_le (p := isF) (c :: r)
    simp only [List.length_cons] at *
    split at h
    · rename_i hL
      have := wName_bd hL h
      simpa using this
    · split at h
      · have := wNum_bd h
        simp at this
        omega
      · split at h
        · have := wNum_bd h
          simp at this
          omega
        · split at h
          · have := wVar_bd h
            omega
          · split at h
            · split at h
              · rename_i h62
                have := ok_inj h
                cases r with
                | nil => simp at h62
                | cons d r => simp; omega
              · have := ok_inj h
                omega
            · split at h
              · have := ok_inj h
                omega
              · cases h
/-- no word is long -/
theorem wd_41 {s : List Nat} {n : Nat} (h : wd s = .ok n) : n ≤ 41 := by
  have hN : ∀ f g, wNum f g = .ok n → n ≤ 41 := fun f g h => by
    have e := wNum_bd h
    unfold wNum at h
    split at h
    · cases h
    · rename_i hb
      have : ¬ 10 < f.length := fun z => hb (.inr (.inl z))
      have g1 : g.toNat ≤ 1 := by cases g <;> decide
      omega
  cases s with
  | nil => cases h
  | cons c r =>
    rw [wd_cons] at h
    split at h
    · unfold wName at h
      split at h
      · cases h
      · split at h
        · split at h
          · cases h
          · rename_i h1 h2 h3
            have := ok_inj h
            have : ¬ 20 < nB ((c :: r).drop (nB (c :: r) + 1)) := fun z => h3 (.inl z)
            omega
        · have := ok_inj h
          omega
    · split at h
      · exact hN _ _ h
      · split at h
        · exact hN _ _ h
        · split at h
          · have e := wVar_bd h
            unfold wVar at h
            split at h
            · cases h
            · rename_i hb
              have : ¬ 9 < (r.takeWhile isF).length := fun z => hb (.inr z)
              omega
          · split at h
            · split at h
              · have := ok_inj h
                omega
              · have := ok_inj h
                omega
            · split at h
              · have := ok_inj h
                omega
              · cases h
end K06
end FW

set_option maxHeartbeats 4000000
namespace FW
namespace K06
open PySem PySem.Spec L2

@[simp] theorem ev_gT2 {i j : Nat} {x y : D} {e : Env} {st : Store} : gT 2 (gsC (gN i) (gsC (gN j) gsN)) (.tup [x, y]) e st = some ((e.set i (some x)).set j (some y), st) := rfl
theorem ev_app {b : Nat} {ds : List D} {y : D} {st : Store} (h : st[b]? = some (.lst ds)) (hl : ds.length ≤ 100000) : mAppend (.ref b) [y] st = some (.non, st.set b (.lst (ds ++ [y]))) := by
  unfold mAppend
  have e : mutL (.ref b) st = some (b, ds) := by simp only [mutL, h]
  have := sizeLine_big
  rw [e]
  dsimp only
  rw [if_pos (by omega)]
theorem ty_lst {b : Nat} {ds : List D} {st : Store} (h : st[b]? = some (.lst ds)) : tyD .lst (.ref b) st = true := by
  simp only [tyD, rdlOf, h]
  rfl
/-- a word as both tell it -/
structure Wt where
  w : List Nat
  row : Nat
  col : Nat
def Wt.d (w : Wt) : D := .tup [.str (tx w.w), .int (w.row : Int), .int (w.col : Int)]
def errX (row k : Nat) : Exn := ⟨"NoText", [("line", .int (row : Int)), ("column", .int (k : Int))]⟩
def errD (row k : Nat) : D := .tup [.str "text", .int (row : Int), .int (k : Int)]
section
variable {l t rest : List Nat} {row : Nat}
abbrev pE (l : List Nat) (row b col : Nat) (x : Option D) : Env := [some (.str (tx l)), some (.int (row : Int)), some (.ref b), some (.int (col : Int)), x]
abbrev lE (t : List Nat) (b row col i : Nat) (x5 x6 x7 : Option D) : Env := [some (.str (tx t)), some (.ref b), some (.int (row : Int)), some (.int (col : Int)), some (.int (i : Int)), x5, x6, x7]
/-! ### the program's loop, a step -/
theorem p_test {b col c : Nat} {x : Option D} {st : Store} (hl : l.length ≤ 2000) (hc : l[col]? = some c) : t_line_words_2 (pE l row b col x) st = some (.ok (decide (c ≠ 35)), st) := by
  have hi := (List.getElem?_eq_some_iff.mp hc).1
  have hash : ("#" : Str) = tx [35] := by decide +kernel
  unfold t_line_words_2
  rw [ev_and_t (st1 := st) (by simp [pE, len_tx hl, hi])]
  simp [pE, ix_tx hl hc, hash, one_eq]
theorem p_end {b col : Nat} {x : Option D} {st : Store} (hl : l.length ≤ 2000) (hc : l.length ≤ col) : t_line_words_2 (pE l row b col x) st = some (.ok false, st) := by
  unfold t_line_words_2
  rw [ev_and_f (st1 := st) (by simp [pE, len_tx hl]; omega)]
theorem p_if {b col c : Nat} {x : Option D} {st : Store} (hl : l.length ≤ 2000) (hc : l[col]? = some c) : t_line_words_2b1 (pE l row b col x) st = some (.ok (decide (c = 32)), st) := by
  have sp : (" " : Str) = tx [32] := by decide +kernel
  simp [t_line_words_2b1, pE, ix_tx hl hc, sp, one_eq]
theorem p_space {b col : Nat} {x : Option D} {st : Store} (hl : l.length ≤ 2000) (hc : l[col]? = some 32) : b_line_words_2b (pE l row b col x) st = some (.nx (pE l row b (col + 1) x), st) := by
  unfold b_line_words_2b m_line_words_2b1
  rw [ev_if_t (by have := p_if (b := b) (row := row) (x := x) (st := st) hl hc; simpa using this)]
  simp [b_line_words_2b1t, m_line_words_2b1t1, ev_sAug, fIp, pE]
theorem p_word {b col c n : Nat} {x : Option D} {S : Store} {ds : List D} (hl : l.length ≤ 2000) (hc : l[col]? = some c) (h32 : c ≠ 32) (hw : wd (l.drop col) = .ok n) (hb : b < S.length) (hds : ds.length ≤ 50000) :
    b_line_words_2b (pE l row b col x) (S.set b (.lst ds)) = some (.nx (pE l row b (col + n) (some (.int ((col + n : Nat) : Int)))), S.set b (.lst (ds ++ [(⟨(l.drop col).take n, row, col⟩ : Wt).d]))) := by
  have hst : (S.set b (.lst ds))[b]? = some (.lst ds) := ev_set_get hb
  unfold b_line_words_2b m_line_words_2b1
  rw [ev_if_f (by have := p_if (b := b) (row := row) (x := x) (st := S.set b (.lst ds)) hl hc; rw [decide_eq_false h32] at this; exact this)]
  unfold b_line_words_2b1f
  have g := g_word_end (st := S.set b (.lst ds)) (row := row) hl hc
  rw [hw] at g
  have s1 : m_line_words_2b1f1 (pE l row b col x) (S.set b (.lst ds)) = some (.nx (pE l row b col (some (.int ((col + n : Nat) : Int)))), S.set b (.lst ds)) := by
    simp [-Int.natCast_add, m_line_words_2b1f1, pE, g, pW]
  have s2 : m_line_words_2b1f2 (pE l row b col (some (.int ((col + n : Nat) : Int)))) (S.set b (.lst ds)) = some (.nx (pE l row b col (some (.int ((col + n : Nat) : Int)))), S.set b (.lst (ds ++ [(⟨(l.drop col).take n, row, col⟩ : Wt).d]))) := by
    have sl : oSl (.str (tx l)) (some (col : Int)) (some ((col + n : Nat) : Int)) (S.set b (.lst ds)) = some (.str (tx ((l.drop col).take n)), S.set b (.lst ds)) := sl_n hl rfl rfl rfl
    simp [-Int.natCast_add, m_line_words_2b1f2, pE, ty_lst hst, sl, fz 3, ev_app hst (show ds.length ≤ 100000 by omega), Wt.d]
  rw [ev_sSeq s1, ev_sSeq s2]
  simp [-Int.natCast_add, m_line_words_2b1f3, pE]
theorem p_bad {b col c k : Nat} {x : Option D} {S : Store} {ds : List D} (hl : l.length ≤ 2000) (hc : l[col]? = some c) (h32 : c ≠ 32) (hw : wd (l.drop col) = .no k) :
    b_line_words_2b (pE l row b col x) (S.set b (.lst ds)) = some (.exc (errX row (col + k)) (pE l row b col x), S.set b (.lst ds)) := by
  unfold b_line_words_2b m_line_words_2b1
  rw [ev_if_f (by have := p_if (b := b) (row := row) (x := x) (st := S.set b (.lst ds)) hl hc; rw [decide_eq_false h32] at this; exact this)]
  unfold b_line_words_2b1f
  have g := g_word_end (st := S.set b (.lst ds)) (row := row) hl hc
  rw [hw] at g
  refine ev_sSeq_exc ?_
  simp [-Int.natCast_add, m_line_words_2b1f1, pE, g, pW]
  rfl
/-! ### the law's loop, a step -/
theorem l_test {b col i : Nat} {x5 x6 x7 : Option D} {st : Store} (hl : t.length ≤ 2000) : t_law_scanned_2 (lE t b row col i x5 x6 x7) st = some (.ok (decide (i < t.length)), st) := by
  have : decide ((i : Int) < (t.length : Int)) = decide (i < t.length) := decide_eq_decide.mpr (by omega)
  simp [t_law_scanned_2, lE, len_tx hl, this]
theorem l_sign {b col i c : Nat} {x5 x6 x7 : Option D} {st : Store} (hl : t.length ≤ 2000) (hc : t[i]? = some c) : m_law_scanned_2b1 (lE t b row col i x5 x6 x7) st = some (.nx (lE t b row col i (some (.str (tx [c]))) x6 x7), st) := by
  simp [m_law_scanned_2b1, lE, ix_tx hl hc]
theorem l_nl {b col i c : Nat} {x6 x7 : Option D} {st : Store} : t_law_scanned_2b2 (lE t b row col i (some (.str (tx [c]))) x6 x7) st = some (.ok (decide (c = 10)), st) := by
  have nl : ("\n" : Str) = tx [10] := by decide +kernel
  simp [t_law_scanned_2b2, lE, nl, one_eq]
theorem l_hash {b col i c : Nat} {x6 x7 : Option D} {st : Store} : t_law_scanned_2b3 (lE t b row col i (some (.str (tx [c]))) x6 x7) st = some (.ok (decide (c = 35)), st) := by
  have hash : ("#" : Str) = tx [35] := by decide +kernel
  simp [t_law_scanned_2b3, lE, hash, one_eq]
theorem l_sp {b col i c : Nat} {x6 x7 : Option D} {st : Store} : t_law_scanned_2b4 (lE t b row col i (some (.str (tx [c]))) x6 x7) st = some (.ok (decide (c = 32)), st) := by
  have sp : (" " : Str) = tx [32] := by decide +kernel
  simp [t_law_scanned_2b4, lE, sp, one_eq]
/-- a new line -/
theorem l_line {b col i : Nat} {x5 x6 x7 : Option D} {st : Store} {o : SR × Store} (hl : t.length ≤ 2000) (hc : t[i]? = some 10) (h : WhR t_law_scanned_2 b_law_scanned_2b (lE t b (row + 1) 0 (i + 1) (some (.str (tx [10]))) x6 x7) st o) : WhR t_law_scanned_2 b_law_scanned_2b (lE t b row col i x5 x6 x7) st o := by
  have hi := (List.getElem?_eq_some_iff.mp hc).1
  refine WhR.ct (by rw [l_test hl, decide_eq_true hi]) (e2 := lE t b (row + 1) 0 (i + 1) (some (.str (tx [10]))) x6 x7) (st2 := st) ?_ h
  unfold b_law_scanned_2b
  rw [ev_sSeq (l_sign hl hc)]
  refine ev_sSeq_ct ?_
  unfold m_law_scanned_2b2
  rw [ev_if_t (by rw [l_nl]; rfl)]
  unfold b_law_scanned_2b2t
  rw [ev_sSeq (e1 := lE t b (row + 1) 0 (i + 1) (some (.str (tx [10]))) x6 x7) (st1 := st) (by simp [m_law_scanned_2b2t1, lE])]
  simp [m_law_scanned_2b2t2]
/-- a space -/
theorem l_space {b col i : Nat} {x5 x6 x7 : Option D} {st : Store} {o : SR × Store} (hl : t.length ≤ 2000) (hc : t[i]? = some 32) (h : WhR t_law_scanned_2 b_law_scanned_2b (lE t b row (col + 1) (i + 1) (some (.str (tx [32]))) x6 x7) st o) : WhR t_law_scanned_2 b_law_scanned_2b (lE t b row col i x5 x6 x7) st o := by
  have hi := (List.getElem?_eq_some_iff.mp hc).1
  refine WhR.ct (by rw [l_test hl, decide_eq_true hi]) (e2 := lE t b row (col + 1) (i + 1) (some (.str (tx [32]))) x6 x7) (st2 := st) ?_ h
  unfold b_law_scanned_2b
  rw [ev_sSeq (l_sign hl hc), ev_sSeq (show m_law_scanned_2b2 _ _ = _ from (ev_if_f (by rw [l_nl]; rfl)).trans ev_sNil), ev_sSeq (show m_law_scanned_2b3 _ _ = _ from (ev_if_f (by rw [l_hash]; rfl)).trans ev_sNil)]
  refine ev_sSeq_ct ?_
  unfold m_law_scanned_2b4
  rw [ev_if_t (by rw [l_sp]; rfl)]
  unfold b_law_scanned_2b4t
  rw [ev_sSeq (e1 := lE t b row (col + 1) (i + 1) (some (.str (tx [32]))) x6 x7) (st1 := st) (by simp [m_law_scanned_2b4t1, lE])]
  simp [m_law_scanned_2b4t2]
/-- the way to the line's end -/
theorem l_skip {b : Nat} {x5 x6 x7 : Option D} {st : Store} (hl : t.length ≤ 2000) (hr : Rest rest) : ∀ (a : List Nat) (i col : Nat), 10 ∉ a → t.drop i = a ++ rest → i ≤ t.length →
    WhR t_law_scanned_2b3t1 b_law_scanned_2b3t1b (lE t b row col i x5 x6 x7) st (.nx (lE t b row (col + a.length) (i + a.length) x5 x6 x7), st)
  | [], i, col, _, h, hi => by
    refine WhR.stop ?_
    have nl : ("\n" : Str) = tx [10] := by decide +kernel
    unfold t_law_scanned_2b3t1
    rcases hr with rfl | ⟨z, rfl⟩
    · have : t.length ≤ i := by
        have := congrArg List.length h
        simp at this
        omega
      rw [ev_and_f (st1 := st) (by simp [lE, len_tx hl]; omega)]
    · have hc := (drop_some (show t.drop i = 10 :: z from h)).1
      have hlt := (List.getElem?_eq_some_iff.mp hc).1
      rw [ev_and_t (st1 := st) (by simp [lE, len_tx hl, hlt])]
      simp [lE, ix_tx hl hc, nl]
  | c :: a, i, col, h10, h, hi => by
    have nl : ("\n" : Str) = tx [10] := by decide +kernel
    obtain ⟨hc, h2⟩ := drop_some (show t.drop i = c :: (a ++ rest) from h)
    have hlt := (List.getElem?_eq_some_iff.mp hc).1
    have hne : c ≠ 10 := fun e => h10 (by rw [e]; exact List.mem_cons_self)
    have ih := l_skip (b := b) (x5 := x5) (x6 := x6) (x7 := x7) (st := st) hl hr a (i + 1) (col + 1) (fun m => h10 (List.mem_cons_of_mem _ m)) h2 (by omega)
    refine WhR.next (st1 := st) (e2 := lE t b row (col + 1) (i + 1) x5 x6 x7) (st2 := st) ?_ ?_ ?_
    · unfold t_law_scanned_2b3t1
      rw [ev_and_t (st1 := st) (by simp [lE, len_tx hl, hlt])]
      simp [lE, ix_tx hl hc, nl, one_eq, hne]
    · simp [b_law_scanned_2b3t1b, m_law_scanned_2b3t1b1, lE]
    · rw [List.length_cons, show col + (a.length + 1) = col + 1 + a.length by omega, show i + (a.length + 1) = i + 1 + a.length by omega]
      exact ih
/-- a comment -/
theorem l_comment {b col i : Nat} {a : List Nat} {x5 x6 x7 : Option D} {st : Store} {o : SR × Store} (hl : t.length ≤ 2000) (hr : Rest rest) (h10 : 10 ∉ (35 :: a)) (hd : t.drop i = (35 :: a) ++ rest)
    (h : WhR t_law_scanned_2 b_law_scanned_2b (lE t b row (col + (35 :: a).length) (i + (35 :: a).length) (some (.str (tx [35]))) x6 x7) st o) : WhR t_law_scanned_2 b_law_scanned_2b (lE t b row col i x5 x6 x7) st o := by
  have hc := (drop_some (show t.drop i = 35 :: (a ++ rest) from hd)).1
  have hi := (List.getElem?_eq_some_iff.mp hc).1
  refine WhR.ct (by rw [l_test hl, decide_eq_true hi]) (e2 := lE t b row (col + (35 :: a).length) (i + (35 :: a).length) (some (.str (tx [35]))) x6 x7) (st2 := st) ?_ h
  unfold b_law_scanned_2b
  rw [ev_sSeq (l_sign hl hc), ev_sSeq (show m_law_scanned_2b2 _ _ = _ from (ev_if_f (by rw [l_nl]; rfl)).trans ev_sNil)]
  refine ev_sSeq_ct ?_
  unfold m_law_scanned_2b3
  rw [ev_if_t (by rw [l_hash]; rfl)]
  unfold b_law_scanned_2b3t
  rw [ev_sSeq (show m_law_scanned_2b3t1 _ _ = _ from ev_while (l_skip hl hr (35 :: a) i col h10 hd (by omega)))]
  simp [m_law_scanned_2b3t2]
/-- what both find when no more than a word is there -/
theorem l_head {b col i c : Nat} {x5 x6 x7 : Option D} {st : Store} (hl : t.length ≤ 2000) (hc : t[i]? = some c) (n10 : c ≠ 10) (n35 : c ≠ 35) (n32 : c ≠ 32) {out : Option (SR × Store)}
    (h : sSeq m_law_scanned_2b5 (sSeq m_law_scanned_2b6 (sSeq m_law_scanned_2b7 m_law_scanned_2b8)) (lE t b row col i (some (.str (tx [c]))) x6 x7) st = out) : b_law_scanned_2b (lE t b row col i x5 x6 x7) st = out := by
  unfold b_law_scanned_2b
  rw [ev_sSeq (l_sign hl hc), ev_sSeq (show m_law_scanned_2b2 _ _ = _ from (ev_if_f (by rw [l_nl, decide_eq_false n10])).trans ev_sNil), ev_sSeq (show m_law_scanned_2b3 _ _ = _ from (ev_if_f (by rw [l_hash, decide_eq_false n35])).trans ev_sNil), ev_sSeq (show m_law_scanned_2b4 _ _ = _ from (ev_if_f (by rw [l_sp, decide_eq_false n32])).trans ev_sNil)]
  exact h
theorem l_word {b col i c n : Nat} {x5 x6 x7 : Option D} {S : Store} {ds : List D} {o : SR × Store} (hl : t.length ≤ 2000) (hc : t[i]? = some c) (n10 : c ≠ 10) (n35 : c ≠ 35) (n32 : c ≠ 32) (hw : wd (t.drop i) = .ok n) (hb : b < S.length) (hds : ds.length ≤ 50000)
    (h : WhR t_law_scanned_2 b_law_scanned_2b (lE t b row (col + n) (i + n) (some (.str (tx [c]))) (some (.str (tx ((t.drop i).take n)))) (some .non)) (S.set b (.lst (ds ++ [(⟨(t.drop i).take n, row, col⟩ : Wt).d]))) o) :
    WhR t_law_scanned_2 b_law_scanned_2b (lE t b row col i x5 x6 x7) (S.set b (.lst ds)) o := by
  have hi := (List.getElem?_eq_some_iff.mp hc).1
  have hst : (S.set b (.lst ds))[b]? = some (.lst ds) := ev_set_get hb
  refine WhR.next (by rw [l_test hl, decide_eq_true hi]) (e2 := lE t b row (col + n) (i + n) (some (.str (tx [c]))) (some (.str (tx ((t.drop i).take n)))) (some .non)) ?_ h
  refine l_head hl hc n10 n35 n32 ?_
  have g := g_law_word_at (st := S.set b (.lst ds)) hl hc
  rw [hw] at g
  have hbd := wd_bd hw
  have hln : fLen [.str (tx ((t.drop i).take n))] = fun st => some (.int n, st) := by
    funext st
    rw [len_tx (by simp; omega), List.length_take, List.length_drop]
    rw [List.length_drop] at hbd
    rw [Nat.min_eq_left (by omega)]
  have s5 : m_law_scanned_2b5 (lE t b row col i (some (.str (tx [c]))) x6 x7) (S.set b (.lst ds)) = some (.nx (lE t b row col i (some (.str (tx [c]))) (some (.str (tx ((t.drop i).take n)))) (some .non)), S.set b (.lst ds)) := by
    simp [m_law_scanned_2b5, lE, g, lW]
  have s7 : m_law_scanned_2b7 (lE t b row col i (some (.str (tx [c]))) (some (.str (tx ((t.drop i).take n)))) (some .non)) (S.set b (.lst ds)) = some (.nx (lE t b row col i (some (.str (tx [c]))) (some (.str (tx ((t.drop i).take n)))) (some .non)), S.set b (.lst (ds ++ [(⟨(t.drop i).take n, row, col⟩ : Wt).d]))) := by
    simp [m_law_scanned_2b7, lE, ty_lst hst, fz 3, ev_app hst (show ds.length ≤ 100000 by omega), Wt.d]
  rw [ev_sSeq s5]
  rw [ev_sSeq (show m_law_scanned_2b6 _ _ = _ from (ev_if_f (st1 := S.set b (.lst ds)) (by simp [t_law_scanned_2b6, lE])).trans ev_sNil), ev_sSeq s7]
  simp [m_law_scanned_2b8, lE, hln]
theorem l_bad {b col i c k : Nat} {x5 x6 x7 : Option D} {st : Store} (hl : t.length ≤ 2000) (hc : t[i]? = some c) (n10 : c ≠ 10) (n35 : c ≠ 35) (n32 : c ≠ 32) (hw : wd (t.drop i) = .no k) :
    WhR t_law_scanned_2 b_law_scanned_2b (lE t b row col i x5 x6 x7) st (.rt (errD row (col + k)), st) := by
  have hi := (List.getElem?_eq_some_iff.mp hc).1
  refine WhR.rt (by rw [l_test hl, decide_eq_true hi]) ?_
  refine l_head hl hc n10 n35 n32 ?_
  have g := g_law_word_at (st := st) hl hc
  rw [hw] at g
  have s5 : m_law_scanned_2b5 (lE t b row col i (some (.str (tx [c]))) x6 x7) st = some (.nx (lE t b row col i (some (.str (tx [c]))) (some .non) (some (.int (k : Int)))), st) := by
    simp [m_law_scanned_2b5, lE, g, lW]
  rw [ev_sSeq s5]
  refine ev_sSeq_rt ?_
  unfold m_law_scanned_2b6
  rw [ev_if_t (st1 := st) (by simp [t_law_scanned_2b6, lE]; rfl)]
  simp [b_law_scanned_2b6t, m_law_scanned_2b6t1, lE, fz 3, errD]
end
end K06
end FW

set_option maxHeartbeats 4000000
namespace FW
namespace K06
open PySem PySem.Spec L2

/-- words within bounds -/
def Wok (ws : List Wt) : Prop := ∀ w ∈ ws, w.w.length ≤ 41 ∧ w.row ≤ 2000 ∧ w.col ≤ 4000 ∧ (∀ c ∈ w.w, c < 200)
theorem drop_len {l a : List Nat} {k : Nat} (h : l.drop k = a) (hk : k ≤ l.length) : k + a.length = l.length := by
  have := congrArg List.length h
  rw [List.length_drop] at this
  omega
section
variable {l t rest : List Nat} {row : Nat}
theorem line_go (hl : l.length ≤ 1000) (ht : t.length ≤ 1000) (hr : Rest rest) (hrow : row ≤ 2000) (hch : ∀ c ∈ l, c < 200) : ∀ (m : Nat) (a : List Nat) (i col : Nat), a.length ≤ m → 10 ∉ a → l.drop col = a → col ≤ l.length → t.drop i = a ++ rest → i ≤ t.length →
    ∃ (ws : List Wt) (err : Option Nat), ws.length ≤ a.length ∧ Wok ws ∧ (∀ k, err = some k → k ≤ 4000) ∧
      (∀ (S : Store) (b : Nat) (ds : List D) (x : Option D), b < S.length → ds.length + a.length ≤ 40000 → match err with
        | none => ∃ c' x', WhR t_line_words_2 b_line_words_2b (pE l row b col x) (S.set b (.lst ds)) (.nx (pE l row b c' x'), S.set b (.lst (ds ++ ws.map Wt.d)))
        | some k => ∃ e', WhR t_line_words_2 b_line_words_2b (pE l row b col x) (S.set b (.lst ds)) (.exc (errX row k) e', S.set b (.lst (ds ++ ws.map Wt.d)))) ∧
      (∀ (S : Store) (b : Nat) (ds : List D) (x5 x6 x7 : Option D), b < S.length → ds.length + a.length ≤ 40000 → match err with
        | none => ∃ i' col' y5 y6 y7, t.drop i' = rest ∧ i' ≤ t.length ∧ ∀ o, WhR t_law_scanned_2 b_law_scanned_2b (lE t b row col' i' y5 y6 y7) (S.set b (.lst (ds ++ ws.map Wt.d))) o → WhR t_law_scanned_2 b_law_scanned_2b (lE t b row col i x5 x6 x7) (S.set b (.lst ds)) o
        | some k => WhR t_law_scanned_2 b_law_scanned_2b (lE t b row col i x5 x6 x7) (S.set b (.lst ds)) (.rt (errD row k), S.set b (.lst (ds ++ ws.map Wt.d))))
  | m, [], i, col, _, _, hA, hcol, hT, hi => by
    refine ⟨[], none, by simp, by intro w h; simp at h, fun k h => (by cases h), fun S b ds x hb hd => ?_, fun S b ds x5 x6 x7 hb hd => ?_⟩
    · refine ⟨col, x, ?_⟩
      rw [List.map_nil, List.append_nil]
      refine WhR.stop (p_end (by omega) ?_)
      have := drop_len hA hcol
      simp at this
      omega
    · refine ⟨i, col, x5, x6, x7, by simpa using hT, hi, fun o h => ?_⟩
      rw [List.map_nil, List.append_nil] at h
      exact h
  | 0, c :: a, i, col, hm, _, _, _, _, _ => by simp at hm
  | m + 1, c :: a, i, col, hm, h10, hA, hcol, hT, hi => by
    have hlc := (drop_some hA).1
    have htc := (drop_some (show t.drop i = c :: (a ++ rest) from hT)).1
    have hlt := (List.getElem?_eq_some_iff.mp htc).1
    have hlt2 := (List.getElem?_eq_some_iff.mp hlc).1
    have n10 : c ≠ 10 := fun e => h10 (by rw [e]; exact List.mem_cons_self)
    by_cases n35 : c = 35
    · subst n35
      refine ⟨[], none, by simp, by intro w h; simp at h, fun k h => (by cases h), fun S b ds x hb hd => ?_, fun S b ds x5 x6 x7 hb hd => ?_⟩
      · refine ⟨col, x, ?_⟩
        rw [List.map_nil, List.append_nil]
        exact WhR.stop (by rw [p_test (by omega) hlc]; rfl)
      · have hlen := drop_len hT hi
        refine ⟨i + (35 :: a).length, col + (35 :: a).length, some (.str (tx [35])), x6, x7, ?_, ?_, fun o h => ?_⟩
        · rw [← List.drop_drop, hT]
          exact List.drop_left
        · rw [List.length_append] at hlen; omega
        · rw [List.map_nil, List.append_nil] at h
          exact l_comment (by omega) hr h10 hT h
    by_cases n32 : c = 32
    · subst n32
      obtain ⟨ws, err, h1, h2, hk, h3, h4⟩ := line_go hl ht hr hrow hch m a (i + 1) (col + 1) (by simpa using hm) (fun q => h10 (List.mem_cons_of_mem _ q)) (drop_some hA).2 (by omega) (drop_some (show t.drop i = 32 :: (a ++ rest) from hT)).2 (by omega)
      refine ⟨ws, err, by simp; omega, h2, hk, fun S b ds x hb hd => ?_, fun S b ds x5 x6 x7 hb hd => ?_⟩
      · have step : ∀ o, WhR t_line_words_2 b_line_words_2b (pE l row b (col + 1) x) (S.set b (.lst ds)) o → WhR t_line_words_2 b_line_words_2b (pE l row b col x) (S.set b (.lst ds)) o := fun o h =>
          WhR.next (by rw [p_test (by omega) hlc]; rfl) (p_space (by omega) hlc) h
        have q := h3 S b ds x hb (by simp at hd; omega)
        cases err with
        | none => obtain ⟨c', x', q⟩ := q; exact ⟨c', x', step _ q⟩
        | some k => obtain ⟨e', q⟩ := q; exact ⟨e', step _ q⟩
      · have q := h4 S b ds (some (.str (tx [32]))) x6 x7 hb (by simp at hd; omega)
        cases err with
        | none =>
          obtain ⟨i', col', y5, y6, y7, q1, q2, q3⟩ := q
          exact ⟨i', col', y5, y6, y7, q1, q2, fun o h => l_space (by omega) htc (q3 o h)⟩
        | some k => exact l_space (by omega) htc q
    have same : wd (t.drop i) = wd (l.drop col) := by rw [hT, hA]; exact wd_loc (by simp) hr
    cases hw : wd (l.drop col) with
    | no k =>
      rw [hw] at same
      have hke : k ≤ 4000 ∨ True := .inr trivial
      refine ⟨[], some (col + k), by simp, by intro w h; simp at h, fun z hz => ?_, fun S b ds x hb hd => ?_, fun S b ds x5 x6 x7 hb hd => ?_⟩
      · have hk : k ≤ 1100 := by
          have : ∀ s : List Nat, ∀ k, wd s = .no k → k ≤ s.length + 1 := by
            intro s k h
            cases s with
            | nil => cases h; omega
            | cons c r =>
              rw [wd_cons] at h
              have z0 : ∀ {k : Nat}, W.no 0 = W.no k → k ≤ (c :: r).length + 1 := fun h => by cases h; omega
              split at h
              · unfold wName at h
                split at h
                · exact z0 h
                · split at h
                  · split at h
                    · have := nB_le (c :: r)
                      cases h
                      omega
                    · cases h
                  · cases h
              · split at h
                · unfold wNum at h
                  split at h
                  · exact z0 h
                  · cases h
                · split at h
                  · unfold wNum at h
                    split at h
                    · exact z0 h
                    · cases h
                  · split at h
                    · unfold wVar at h
                      split at h
                      · exact z0 h
                      · cases h
                    · split at h
                      · split at h <;> cases h
                      · split at h
                        · cases h
                        · exact z0 h
          have := this _ _ hw
          rw [List.length_drop] at this
          omega
        cases hz
        omega
      · refine ⟨pE l row b col x, ?_⟩
        rw [List.map_nil, List.append_nil]
        exact WhR.exc (by rw [p_test (by omega) hlc, decide_eq_true n35]) (p_bad (by omega) hlc n32 hw)
      · show WhR _ _ _ _ _
        rw [List.map_nil, List.append_nil]
        exact l_bad (by omega) htc n10 n35 n32 same
    | ok n =>
      rw [hw] at same
      have hbd := wd_bd hw
      rw [hA] at hbd
      have e1 : l.drop (col + n) = (c :: a).drop n := by rw [← List.drop_drop, hA]
      have e2 : t.drop (i + n) = (c :: a).drop n ++ rest := by rw [← List.drop_drop, hT]; exact List.drop_append_of_le_length hbd.2
      have hl2 := drop_len hA hcol
      have hT2 := drop_len hT hi
      rw [List.length_append] at hT2
      obtain ⟨ws, err, h1, h2, hk, h3, h4⟩ := line_go hl ht hr hrow hch m ((c :: a).drop n) (i + n) (col + n) (by rw [List.length_drop]; omega) (fun q => h10 (List.mem_of_mem_drop q)) e1 (by omega) e2 (by omega)
      have wsame : (t.drop i).take n = (l.drop col).take n := by rw [hT, hA]; exact List.take_append_of_le_length hbd.2
      refine ⟨⟨(l.drop col).take n, row, col⟩ :: ws, err, by rw [List.length_drop] at h1; simp only [List.length_cons] at *; omega, ?_, hk, fun S b ds x hb hd => ?_, fun S b ds x5 x6 x7 hb hd => ?_⟩
      · intro w hw'
        rcases List.mem_cons.mp hw' with e | q
        · rw [e]
          refine ⟨?_, hrow, ?_, fun c hc => hch c (List.mem_of_mem_drop (List.mem_of_mem_take hc))⟩
          · show ((l.drop col).take n).length ≤ 41
            have := wd_41 hw
            rw [List.length_take, List.length_drop]
            omega
          · show col ≤ 4000
            omega
        · exact h2 w q
      · have step : ∀ o, WhR t_line_words_2 b_line_words_2b (pE l row b (col + n) (some (.int ((col + n : Nat) : Int)))) (S.set b (.lst (ds ++ [(⟨(l.drop col).take n, row, col⟩ : Wt).d]))) o → WhR t_line_words_2 b_line_words_2b (pE l row b col x) (S.set b (.lst ds)) o := fun o h =>
          WhR.next (by rw [p_test (by omega) hlc, decide_eq_true n35]) (p_word (by omega) hlc n32 hw hb (by omega)) h
        have q := h3 S b (ds ++ [(⟨(l.drop col).take n, row, col⟩ : Wt).d]) (some (.int ((col + n : Nat) : Int))) hb (by rw [List.length_drop, List.length_append]; simp only [List.length_cons, List.length_nil] at *; omega)
        rw [List.append_assoc] at q
        cases err with
        | none => obtain ⟨c', x', q⟩ := q; exact ⟨c', x', step _ q⟩
        | some k => obtain ⟨e', q⟩ := q; exact ⟨e', step _ q⟩
      · have q := h4 S b (ds ++ [(⟨(t.drop i).take n, row, col⟩ : Wt).d]) (some (.str (tx [c]))) (some (.str (tx ((t.drop i).take n)))) (some .non) hb (by rw [List.length_drop, List.length_append]; simp only [List.length_cons, List.length_nil] at *; omega)
        rw [List.append_assoc, wsame] at q
        have step : ∀ o, WhR t_law_scanned_2 b_law_scanned_2b (lE t b row (col + n) (i + n) (some (.str (tx [c]))) (some (.str (tx ((t.drop i).take n)))) (some .non)) (S.set b (.lst (ds ++ [(⟨(t.drop i).take n, row, col⟩ : Wt).d]))) o → WhR t_law_scanned_2 b_law_scanned_2b (lE t b row col i x5 x6 x7) (S.set b (.lst ds)) o := fun o h =>
          l_word (by omega) htc n10 n35 n32 same hb (by omega) h
        rw [wsame] at step
        cases err with
        | none =>
          obtain ⟨i', col', y5, y6, y7, q1, q2, q3⟩ := q
          exact ⟨i', col', y5, y6, y7, q1, q2, fun o h => step _ (q3 o h)⟩
        | some k => exact step _ q
end
end K06
end FW

set_option maxHeartbeats 4000000
namespace FW
namespace K06
open PySem PySem.Spec L2

/-! ### a text's lines -/
def lns : List Nat → List (List Nat)
  | [] => [[]]
  | c :: r => if c = 10 then [] :: lns r else match lns r with
    | h :: t => (c :: h) :: t
    | [] => [[c]]
theorem lns_ne : ∀ l, ∃ h t, lns l = h :: t
  | [] => ⟨_, _, rfl⟩
  | c :: r => by
    obtain ⟨h, t, e⟩ := lns_ne r
    unfold lns
    rw [e]
    split
    · exact ⟨_, _, rfl⟩
    · exact ⟨_, _, rfl⟩
theorem lns_nl (r : List Nat) : lns (10 :: r) = [] :: lns r := by rw [lns, if_pos rfl]
theorem lns_c {c : Nat} {r h : List Nat} {t : List (List Nat)} (hc : c ≠ 10) (e : lns r = h :: t) : lns (c :: r) = (c :: h) :: t := by rw [lns, if_neg hc, e]
theorem lns_cut : ∀ l, ∃ a, 10 ∉ a ∧ ((l = a ∧ lns l = [a]) ∨ ∃ b, l = a ++ 10 :: b ∧ lns l = a :: lns b)
  | [] => ⟨[], by simp, .inl ⟨rfl, rfl⟩⟩
  | c :: r => by
    by_cases hc : c = 10
    · subst hc
      exact ⟨[], by simp, .inr ⟨r, rfl, lns_nl r⟩⟩
    · obtain ⟨a, h10, h⟩ := lns_cut r
      refine ⟨c :: a, by simp [h10]; exact fun e => hc e.symm, ?_⟩
      rcases h with ⟨e1, e2⟩ | ⟨b, e1, e2⟩
      · exact .inl ⟨by rw [e1], lns_c hc e2⟩
      · exact .inr ⟨b, by rw [e1]; rfl, lns_c hc e2⟩
theorem lns_len : ∀ l, (lns l).length ≤ l.length + 1
  | [] => by simp [lns]
  | c :: r => by
    have := lns_len r
    by_cases hc : c = 10
    · subst hc
      rw [lns_nl]
      simp
      omega
    · obtain ⟨h, t, e⟩ := lns_ne r
      rw [lns_c hc e]
      rw [e] at this
      simp at this ⊢
      omega
/-! ### split tells them -/
section
variable {l : List Nat}
open Builtin Builtin.Str StrLaws
theorem nl_tx : ("\n" : Str) = tx [10] := by decide +kernel
theorem at_nl {i : Nat} : subAt (tx l) (tx [10]) i = decide (l[i]? = some 10) := by
  rw [subAt_eq, tx_list, tx_list, tx_len, show [10].length = 1 from rfl, take1]
  rw [Bool.eq_iff_iff]
  simp only [beq_iff_eq, decide_eq_true_eq]
  cases l[i]? <;> simp
theorem occ_run : ∀ (k i : Nat) (acc : Array Nat) (free : Nat), i + k = l.length + 1 → acc.size ≤ i → free ≤ i →
    (forIn (List.range' i k) (acc, free) (occBody (tx l) (tx [10]) l.length (l.length + 1))).run.fst.toList = acc.toList ++ (List.range' i k).filter fun j => decide (l[j]? = some 10)
  | 0, i, acc, free, _, _, _ => by
    show acc.toList = _
    simp
  | k + 1, i, acc, free, h, ha, hf => by
    rw [show List.range' i (k + 1) = i :: List.range' (i + 1) k from rfl, List.forIn_cons]
    by_cases hP : l[i]? = some 10
    · have hlt := (List.getElem?_eq_some_iff.mp hP).1
      have c : ((acc.size < l.length + 1 ∧ free ≤ i) ∧ i + (tx [10]).length ≤ l.length) ∧ subAt (tx l) (tx [10]) i = true := by
        rw [at_nl, tx_len]
        exact ⟨⟨⟨by omega, hf⟩, by simp; omega⟩, decide_eq_true hP⟩
      have e : occBody (tx l) (tx [10]) l.length (l.length + 1) i (acc, free) = pure (ForInStep.yield (acc.push i, i + (tx [10]).length)) := if_pos c
      rw [e]
      refine (occ_run k (i + 1) (acc.push i) (i + (tx [10]).length) (by omega) (by simp; omega) (by rw [tx_len]; simp)).trans ?_
      rw [List.filter_cons, if_pos (decide_eq_true hP), Array.toList_push, List.append_assoc]
      rfl
    · have c : ¬ (((acc.size < l.length + 1 ∧ free ≤ i) ∧ i + (tx [10]).length ≤ l.length) ∧ subAt (tx l) (tx [10]) i = true) := by
        rw [at_nl]
        intro h
        exact hP (of_decide_eq_true h.2)
      have e : occBody (tx l) (tx [10]) l.length (l.length + 1) i (acc, free) = pure (ForInStep.yield (acc, free)) := if_neg c
      rw [e]
      refine (occ_run k (i + 1) acc free (by omega) (by omega) (by omega)).trans ?_
      rw [List.filter_cons, if_neg (by simpa using hP)]
theorem sub_tx (a b : Nat) : strSub (tx l) a b = tx ((l.drop a).take (b - a)) := by
  apply Str.ext'
  apply Array.toList_inj.mp
  rw [strSub_toList]
  rfl
theorem parts_lns : ∀ (k b a : Nat), b + k = l.length + 1 → a ≤ b → ∀ h r, lns (l.drop b) = h :: r → partsFrom (tx l) 1 a ((List.range' b k).filter fun j => decide (l[j]? = some 10)) = tx ((l.drop a).take (b - a) ++ h) :: r.map tx
  | 0, b, a, e, hab, h, r, hl => by
    have hd : l.drop b = [] := List.drop_eq_nil_of_le (by omega)
    rw [hd] at hl
    cases hl
    show [strSub (tx l) a (tx l).length] = _
    rw [sub_tx, tx_len, List.append_nil, List.take_of_length_le (by simp), List.take_of_length_le (by simp; omega)]
    rfl
  | k + 1, b, a, e, hab, h, r, hl => by
    rw [show List.range' b (k + 1) = b :: List.range' (b + 1) k from rfl, List.filter_cons]
    obtain ⟨h2, r2, e2⟩ := lns_ne (l.drop (b + 1))
    by_cases hP : l[b]? = some 10
    · rw [if_pos (decide_eq_true hP)]
      show strSub (tx l) a b :: partsFrom (tx l) 1 (b + 1) _ = _
      rw [parts_lns k (b + 1) (b + 1) (by omega) (Nat.le_refl _) h2 r2 e2]
      rw [drop_cons hP, lns_nl, e2] at hl
      cases hl
      rw [sub_tx, List.append_nil, Nat.sub_self]
      rfl
    · rw [if_neg (by simpa using hP)]
      rw [parts_lns k (b + 1) a (by omega) (by omega) h2 r2 e2]
      rw [show b + 1 - a = (b - a) + 1 by omega, List.take_succ, List.getElem?_drop, show a + (b - a) = b by omega]
      cases q : l[b]? with
      | none =>
        have hd : l.drop b = [] := List.drop_eq_nil_of_le (List.getElem?_eq_none_iff.mp q)
        have hd2 : l.drop (b + 1) = [] := List.drop_eq_nil_of_le (by have := List.getElem?_eq_none_iff.mp q; omega)
        rw [hd] at hl
        rw [hd2] at e2
        rw [hl] at e2
        cases e2
        simp
      | some c =>
        have hc : c ≠ 10 := fun z => hP (by rw [q, z])
        rw [drop_cons q, lns_c hc e2] at hl
        cases hl
        simp
theorem split_lns (hch : ∀ c ∈ l, c < 200) : Txt.split (tx l) "\n" = (lns l).map tx := by
  have k1 : Builtin.Str.strKind (tx l) = 1 := by
    unfold Builtin.Str.strKind
    rw [if_pos]
    rw [Array.all_eq_true_iff_forall_mem]
    intro c hc
    have : c ∈ l := by simpa [tx] using hc
    have := hch c this
    simp
    omega
  have k2 : Builtin.Str.strKind ("\n" : Str) = 1 := by decide +kernel
  obtain ⟨h, r, e⟩ := lns_ne l
  unfold Txt.split
  rw [k1, k2, nl_tx, tx_len, tx_len]
  by_cases h0 : l = []
  · subst h0
    rfl
  have hp : 0 < l.length := List.length_pos_iff.mpr h0
  rw [if_neg (by simp; omega)]
  have oc : occurrences (tx l) (tx [10]) 0 l.length (l.length + 1) = (List.range' 0 (l.length + 1)).filter fun j => decide (l[j]? = some 10) := by
    rw [occ_eq]
    have := occ_run (l := l) (l.length + 1) 0 #[] 0 (by omega) (by simp) (by omega)
    simpa using this
  have pl := parts_lns (l := l) (l.length + 1) 0 0 (by omega) (Nat.le_refl _) h r (by simpa using e)
  rw [oc, e]
  split
  · rename_i hemp
    rw [List.isEmpty_iff.mp hemp] at pl
    have : partsFrom (tx l) 1 0 [] = [tx l] := by
      show [strSub (tx l) 0 (tx l).length] = _
      rw [sub_whole]
    rw [this] at pl
    rw [pl]
    simp
  · rw [partsBetween_eq, show [10].length = 1 from rfl, pl]
    simp
end
end K06
end FW

set_option maxHeartbeats 4000000
namespace FW
namespace K06
open PySem PySem.Spec L2

/-- the store but for the list at f, as it was, and more behind -/
structure Grown (f : Nat) (S S' : Store) : Prop where
  le : S.length ≤ S'.length
  at_ : ∀ j, j < S.length → j ≠ f → S'[j]? = S[j]?
theorem Grown.refl (f : Nat) (S : Store) : Grown f S S := ⟨Nat.le_refl _, fun _ _ _ => rfl⟩
theorem Grown.trans {f : Nat} {S S1 S2 : Store} (a : Grown f S S1) (b : Grown f S1 S2) : Grown f S S2 := ⟨Nat.le_trans a.le b.le, fun j h n => by rw [b.at_ j (Nat.lt_of_lt_of_le h a.le) n, a.at_ j h n]⟩
theorem Grown.app (f : Nat) (S : Store) (g : Store) : Grown f S (S ++ g) := ⟨by simp, fun j h n => List.getElem?_append_left h⟩
theorem Grown.set (f : Nat) (S : Store) (o : Ob) : Grown f S (S.set f o) := ⟨by simp, fun j h n => List.getElem?_set_ne (Ne.symm n)⟩
theorem set_app (st : Store) (o o' : Ob) : (st ++ [o]).set st.length o' = st ++ [o'] := by
  rw [List.set_append_right _ _ (Nat.le_refl _)]
  simp
theorem app_at (st : Store) (o : Ob) (g : Store) : (st ++ o :: g)[st.length]? = some o := by
  rw [List.getElem?_append_right (Nat.le_refl _)]
  simp
/-- what line_words is worth -/
def lwR (st : Store) (ws : List Wt) (row : Nat) : Option Nat → Option (Res D × Store)
  | none => some (.ok (.ref st.length), st ++ [.lst (ws.map Wt.d)])
  | some k => some (.exc (errX row k), st ++ [.lst (ws.map Wt.d)])
/-- lines with their numbers -/
def items : Nat → List (List Nat) → List D
  | _, [] => []
  | row, a :: r => .ztp [.int (row : Int), .str (tx a)] :: items (row + 1) r
theorem zip_items : ∀ (r : List (List Nat)) (row : Nat), List.zipWith (fun (i : Nat) (x : D) => D.ztp [.int i, x]) (List.range' row r.length) (r.map fun a => D.str (tx a)) = items row r
  | [], _ => rfl
  | a :: r, row => by
    rw [List.length_cons, show List.range' row (r.length + 1) = row :: List.range' (row + 1) r.length from rfl, List.map_cons, List.zipWith_cons_cons, zip_items r (row + 1)]
    rfl
theorem enum_items (r : List (List Nat)) : enumD (r.map fun a => D.str (tx a)) = items 0 r := by
  have := zip_items r 0
  rw [← this]
  unfold enumD
  rw [List.length_map, List.range_eq_range']
section
variable {t : List Nat}
abbrev wE (t : List Nat) (f : Nat) (x2 x3 : Option D) : Env := [some (.str (tx t)), some (.ref f), x2, x3]
theorem line_all (ht : t.length ≤ 1000) (hch : ∀ c ∈ t, c < 200) {rest a : List Nat} {row i : Nat} (hr : Rest rest) (hrow : row ≤ 2000) (h10 : 10 ∉ a) (hT : t.drop i = a ++ rest) (hi : i ≤ t.length) :
    ∃ (ws : List Wt) (err : Option Nat), ws.length ≤ a.length ∧ Wok ws ∧ (∀ k, err = some k → k ≤ 4000) ∧ (∀ st, G_line_words [.str (tx a), .int (row : Int)] st = lwR st ws row err) ∧
      (∀ (S : Store) (b : Nat) (ds : List D) (x5 x6 x7 : Option D), b < S.length → ds.length + a.length ≤ 40000 → match err with
        | none => ∃ i' col' y5 y6 y7, t.drop i' = rest ∧ i' ≤ t.length ∧ ∀ o, WhR t_law_scanned_2 b_law_scanned_2b (lE t b row col' i' y5 y6 y7) (S.set b (.lst (ds ++ ws.map Wt.d))) o → WhR t_law_scanned_2 b_law_scanned_2b (lE t b row 0 i x5 x6 x7) (S.set b (.lst ds)) o
        | some k => WhR t_law_scanned_2 b_law_scanned_2b (lE t b row 0 i x5 x6 x7) (S.set b (.lst ds)) (.rt (errD row k), S.set b (.lst (ds ++ ws.map Wt.d)))) := by
  have hlen := drop_len hT hi
  rw [List.length_append] at hlen
  have ha : ∀ c ∈ a, c < 200 := fun c hc => hch c (List.mem_of_mem_drop (i := i) (by rw [hT]; exact List.mem_append_left _ hc))
  obtain ⟨ws, err, h1, h2, h3, h4, h5⟩ := line_go (l := a) (t := t) (rest := rest) (row := row) (by omega) ht hr hrow ha a.length a i 0 (Nat.le_refl _) h10 rfl (Nat.zero_le _) hT hi
  refine ⟨ws, err, h1, h2, h3, fun st => ?_, h5⟩
  have q := h4 (st ++ [.lst []]) st.length [] none (by simp) (by simp; omega)
  rw [set_app, set_app, List.nil_append] at q
  have e0 : env0 5 [D.str (tx a), .int (row : Int)] = [some (.str (tx a)), some (.int (row : Int)), none, none, none] := rfl
  have s1 : m_line_words_1 [some (.str (tx a)), some (.int (row : Int)), none, none, none] st = some (.nx (pE a row st.length 0 none), st ++ [.lst []]) := by
    simp [m_line_words_1, pE]
  cases err with
  | none =>
    obtain ⟨c', x', q⟩ := q
    refine runX_rt ?_
    unfold m_line_words
    rw [e0, ev_sSeq s1, ev_sSeq (show m_line_words_2 _ _ = _ from ev_while q)]
    simp [m_line_words_3, pE]
  | some k =>
    obtain ⟨e', q⟩ := q
    refine runX_exc (e1 := e') ?_
    unfold m_line_words
    rw [e0, ev_sSeq s1]
    exact ev_sSeq_exc (show m_line_words_2 _ _ = _ from ev_while q)
/-- a line's turn in words_of -/
theorem w_turn {f row : Nat} {a : List Nat} {S : Store} {ds : List D} {ws : List Wt} {x2 x3 : Option D} (hS : S[f]? = some (.lst ds)) (hl : ds.length + ws.length ≤ 50000) (g : G_line_words [.str (tx a), .int (row : Int)] S = lwR S ws row none) :
    ∃ S', b_words_of_3b (wE t f (some (.int (row : Int))) (some (.str (tx a)))) S = some (.nx (wE t f (some (.int (row : Int))) (some (.str (tx a)))), S') ∧ S'[f]? = some (.lst (ds ++ ws.map Wt.d)) ∧ Grown f S S' := by
  have hf : f < S.length := (List.getElem?_eq_some_iff.mp hS).1
  have h1 : (S ++ [Ob.lst (ws.map Wt.d)])[f]? = some (.lst ds) := by rw [List.getElem?_append_left hf]; exact hS
  have h2 : (S ++ [Ob.lst (ws.map Wt.d)])[S.length]? = some (.lst (ws.map Wt.d)) := app_at S _ []
  have ex : mExtend (.ref f) [.ref S.length] (S ++ [Ob.lst (ws.map Wt.d)]) = some (.non, (S ++ [Ob.lst (ws.map Wt.d)]).set f (.lst (ds ++ ws.map Wt.d))) := by
    have e1 : mutL (.ref f) (S ++ [Ob.lst (ws.map Wt.d)]) = some (f, ds) := by simp only [mutL, h1]
    have e2 : lstOf (.ref S.length) (S ++ [Ob.lst (ws.map Wt.d)]) = some (ws.map Wt.d) := by simp only [lstOf, h2]
    unfold mExtend
    rw [e1]
    have := sizeLine_big
    simp only [e2]
    rw [if_pos (by rw [List.length_map]; omega)]
  refine ⟨(S ++ [Ob.lst (ws.map Wt.d)]).set f (.lst (ds ++ ws.map Wt.d)), ?_, ?_, ?_⟩
  · unfold lwR at g
    simp [b_words_of_3b, m_words_of_3b1, wE, ty_lst hS, g, ex]
  · exact ev_set_get (by simp; omega)
  · exact (Grown.app f S _).trans (Grown.set f _ _)
theorem w_turn_bad {f row k : Nat} {a : List Nat} {S : Store} {ds : List D} {ws : List Wt} (hS : S[f]? = some (.lst ds)) (g : G_line_words [.str (tx a), .int (row : Int)] S = lwR S ws row (some k)) :
    b_words_of_3b (wE t f (some (.int (row : Int))) (some (.str (tx a)))) S = some (.exc (errX row k) (wE t f (some (.int (row : Int))) (some (.str (tx a)))), S ++ [.lst (ws.map Wt.d)]) := by
  unfold lwR at g
  simp [b_words_of_3b, m_words_of_3b1, wE, ty_lst hS, g]
/-- from a line's begin to the end, both sides -/
theorem lines_go (ht : t.length ≤ 1000) (hch : ∀ c ∈ t, c < 200) : ∀ (m : Nat) (b : List Nat) (row i : Nat), b.length ≤ m → row + b.length ≤ 2000 → t.drop i = b → i ≤ t.length →
    ∃ (ws : List Wt) (err : Option (Nat × Nat)), ws.length ≤ b.length ∧ Wok ws ∧ (∀ p, err = some p → p.1 ≤ 4000 ∧ p.2 ≤ 4000) ∧
      (∀ (S : Store) (f : Nat) (ds : List D) (x2 x3 : Option D), S[f]? = some (.lst ds) → ds.length + b.length ≤ 30000 → ∃ S', Grown f S S' ∧ match err with
        | none => S'[f]? = some (.lst (ds ++ ws.map Wt.d)) ∧ ∃ x2' x3', forL ⟨items 0 (lns t), []⟩ (gT 2 (gsC (gN 2) (gsC (gN 3) gsN))) b_words_of_3b (items row (lns b)) (wE t f x2 x3) S = some (.nx (wE t f x2' x3'), S')
        | some p => ∃ e', forL ⟨items 0 (lns t), []⟩ (gT 2 (gsC (gN 2) (gsC (gN 3) gsN))) b_words_of_3b (items row (lns b)) (wE t f x2 x3) S = some (.exc (errX p.1 p.2) e', S')) ∧
      (∀ (S : Store) (f : Nat) (ds : List D) (x5 x6 x7 : Option D), f < S.length → ds.length + b.length ≤ 30000 → match err with
        | none => ∃ e', WhR t_law_scanned_2 b_law_scanned_2b (lE t f row 0 i x5 x6 x7) (S.set f (.lst ds)) (.nx e', S.set f (.lst (ds ++ ws.map Wt.d))) ∧ e'[1]? = some (some (.ref f))
        | some p => ∃ ds', WhR t_law_scanned_2 b_law_scanned_2b (lE t f row 0 i x5 x6 x7) (S.set f (.lst ds)) (.rt (errD p.1 p.2), S.set f (.lst ds')))
  | m, b, row, i, hm, hrow, hT, hi => by
    obtain ⟨a, h10, hcut⟩ := lns_cut b
    obtain ⟨rest, hr, hb, hln⟩ : ∃ rest, Rest rest ∧ b = a ++ rest ∧ ((rest = [] ∧ lns b = [a]) ∨ ∃ b', rest = 10 :: b' ∧ lns b = a :: lns b') := by
      rcases hcut with ⟨e1, e2⟩ | ⟨b', e1, e2⟩
      · exact ⟨[], .inl rfl, by rw [List.append_nil]; exact e1, .inl ⟨rfl, e2⟩⟩
      · exact ⟨10 :: b', .inr ⟨b', rfl⟩, e1, .inr ⟨b', rfl, e2⟩⟩
    have hlb : b.length = a.length + rest.length := by rw [hb, List.length_append]
    obtain ⟨ws, err, h1, h2, h3, h4, h5⟩ := line_all ht hch hr (by omega) h10 (hT.trans hb) hi (row := row)
    cases err with
    | some k =>
      refine ⟨ws, some (row, k), by omega, h2, fun p hp => ?_, fun S f ds x2 x3 hS hd => ?_, fun S f ds x5 x6 x7 hf hd => ?_⟩
      · cases hp
        exact ⟨by show row ≤ 4000; omega, h3 k rfl⟩
      · refine ⟨S ++ [Ob.lst (ws.map Wt.d)], Grown.app f S _, wE t f (some (.int (row : Int))) (some (.str (tx a))), ?_⟩
        have : ∃ r, items row (lns b) = .ztp [.int (row : Int), .str (tx a)] :: r := by
          rcases hln with ⟨_, e⟩ | ⟨b', _, e⟩ <;> exact ⟨_, by rw [e]; rfl⟩
        obtain ⟨r, e⟩ := this
        rw [e]
        exact ev_for_exc hold_none rfl (w_turn_bad hS (h4 S))
      · exact ⟨_, h5 S f ds x5 x6 x7 hf (by omega)⟩
    | none =>
      rcases hln with ⟨rfl, e⟩ | ⟨b', rfl, e⟩
      · refine ⟨ws, none, by omega, h2, fun p hp => (by cases hp), fun S f ds x2 x3 hS hd => ?_, fun S f ds x5 x6 x7 hf hd => ?_⟩
        · obtain ⟨S', q1, q2, q3⟩ := w_turn (t := t) (x2 := x2) (x3 := x3) hS (show ds.length + ws.length ≤ 50000 by omega) (h4 S)
          refine ⟨S', q3, q2, some (.int (row : Int)), some (.str (tx a)), ?_⟩
          rw [e]
          show forL _ _ _ [.ztp [.int (row : Int), .str (tx a)]] _ _ = _
          rw [ev_for_cons hold_none (e1 := wE t f (some (.int (row : Int))) (some (.str (tx a)))) (st1 := S) rfl q1]
          exact ev_for_nil hold_none
        · obtain ⟨i', col', y5, y6, y7, r1, r2, r3⟩ := h5 S f ds x5 x6 x7 hf (by omega)
          refine ⟨lE t f row col' i' y5 y6 y7, r3 _ (WhR.stop ?_), rfl⟩
          have hge : t.length ≤ i' := by
            have := drop_len r1 r2
            simp at this
            omega
          rw [l_test (by omega), decide_eq_false (by omega)]
      · simp only [List.length_cons] at hlb
        have hlb' : b'.length < b.length := by omega
        cases m with
        | zero => omega
        | succ m =>
        -- where the next line begins
        have hnext : t.drop (i + a.length) = 10 :: b' := by rw [← List.drop_drop, hT, hb]; exact List.drop_left
        have hn2 := drop_some hnext
        have hlt := (List.getElem?_eq_some_iff.mp hn2.1).1
        obtain ⟨ws2, err2, k1, k2, k3, k4, k5⟩ := lines_go ht hch m b' (row + 1) (i + a.length + 1) (by omega) (by omega) hn2.2 (by omega)
        refine ⟨ws ++ ws2, err2, by rw [List.length_append]; omega, fun w hw => (List.mem_append.mp hw).elim (h2 w) (k2 w), k3, fun S f ds x2 x3 hS hd => ?_, fun S f ds x5 x6 x7 hf hd => ?_⟩
        · obtain ⟨S1, q1, q2, q3⟩ := w_turn (t := t) (x2 := x2) (x3 := x3) hS (show ds.length + ws.length ≤ 50000 by omega) (h4 S)
          obtain ⟨S2, p1, p2⟩ := k4 S1 f (ds ++ ws.map Wt.d) (some (.int (row : Int))) (some (.str (tx a))) q2 (by rw [List.length_append, List.length_map]; omega)
          refine ⟨S2, q3.trans p1, ?_⟩
          have step : ∀ o, forL ⟨items 0 (lns t), []⟩ (gT 2 (gsC (gN 2) (gsC (gN 3) gsN))) b_words_of_3b (items (row + 1) (lns b')) (wE t f (some (.int (row : Int))) (some (.str (tx a)))) S1 = o → forL ⟨items 0 (lns t), []⟩ (gT 2 (gsC (gN 2) (gsC (gN 3) gsN))) b_words_of_3b (items row (lns b)) (wE t f x2 x3) S = o := by
            intro o h
            rw [e]
            show forL _ _ _ (.ztp [.int (row : Int), .str (tx a)] :: items (row + 1) (lns b')) _ _ = _
            rw [ev_for_cons hold_none (e1 := wE t f (some (.int (row : Int))) (some (.str (tx a)))) (st1 := S) rfl q1]
            exact h
          rw [List.map_append, ← List.append_assoc]
          cases err2 with
          | none =>
            obtain ⟨z1, u, v, z2⟩ := p2
            exact ⟨z1, u, v, step _ z2⟩
          | some p =>
            obtain ⟨e', z⟩ := p2
            exact ⟨e', step _ z⟩
        · obtain ⟨i', col', y5, y6, y7, r1, r2, r3⟩ := h5 S f ds x5 x6 x7 hf (by omega)
          have hi' : i' = i + a.length := by
            have u1 := drop_len r1 r2
            have u2 := drop_len hnext (by omega)
            omega
          subst hi'
          have q := k5 S f (ds ++ ws.map Wt.d) (some (.str (tx [10]))) y6 y7 hf (by rw [List.length_append, List.length_map]; omega)
          rw [List.map_append, ← List.append_assoc]
          cases err2 with
          | none =>
            obtain ⟨e', q1, q2⟩ := q
            exact ⟨e', r3 _ (l_line (by omega) hn2.1 q1), q2⟩
          | some p =>
            obtain ⟨ds', q⟩ := q
            exact ⟨ds', r3 _ (l_line (by omega) hn2.1 q)⟩
end
end K06
end FW

set_option maxHeartbeats 4000000
namespace FW
namespace K06
open PySem PySem.Spec L2

theorem Grown.cut {st S' : Store} {o : Ob} (h : Grown st.length (st ++ [o]) S') : S' = st ++ S'.drop st.length := by
  have : S'.take st.length = st := by
    apply List.ext_getElem?
    intro j
    by_cases hj : j < st.length
    · rw [List.getElem?_take_of_lt hj, h.at_ j (by simp; omega) (by omega), List.getElem?_append_left hj]
    · rw [List.getElem?_eq_none (by rw [List.length_take]; omega), List.getElem?_eq_none (by omega)]
  rw [← this]
  simp
  have := h.le
  simp at this
  rw [Nat.min_eq_left (by omega), List.take_append_drop]
/-- what is told of a text -/
def outD (n : Nat) : Option (Nat × Nat) → D
  | none => .tup [.str "told", .ref n]
  | some p => errD p.1 p.2
section
variable {t : List Nat}
theorem both (ht : t.length ≤ 1000) (hch : ∀ c ∈ t, c < 200) : ∃ (ws : List Wt) (err : Option (Nat × Nat)), ws.length ≤ 1000 ∧ Wok ws ∧ (∀ p, err = some p → p.1 ≤ 4000 ∧ p.2 ≤ 4000) ∧
    (∀ st, ∃ g, G_law_heard [.str (tx t)] st = some (outD st.length err, st ++ g) ∧ (err = none → g[0]? = some (.lst (ws.map Wt.d)))) ∧
    (∀ st, ∃ g, G_law_scanned [.str (tx t)] st = some (outD st.length err, st ++ g) ∧ (err = none → g[0]? = some (.lst (ws.map Wt.d)))) := by
  obtain ⟨ws, err, h1, h2, h3, h4, h5⟩ := lines_go ht hch t.length t 0 0 (Nat.le_refl _) (by omega) rfl (Nat.zero_le _)
  refine ⟨ws, err, by omega, h2, h3, fun st => ?_, fun st => ?_⟩
  · -- the program's
    have w1 : m_words_of_1 (env0 4 [D.str (tx t)]) st = some (.nx (env0 4 [D.str (tx t)]), st) := by
      unfold m_words_of_1
      rw [ev_if_f (st1 := st)]
      · rfl
      · unfold t_words_of_1
        rw [ev_xNot, ev_xTru, ev_xN, ev_aC]
        simp [env0]
        rfl
    have w2 : m_words_of_2 (env0 4 [D.str (tx t)]) st = some (.nx (wE t st.length none none), st ++ [.lst []]) := by
      simp [m_words_of_2, env0, wE]
    have it : iOf enumI (aC (xVal (fMth oSplit (xV 0) (xC (.str "\n")))) aN) (wE t st.length none none) (st ++ [.lst []]) = some (.ok ⟨items 0 (lns t), []⟩, st ++ [.lst []]) := by
      have sp : oSplit (.str (tx t)) [.str "\n"] (st ++ [.lst []]) = some (.lst ((lns t).map fun a => D.str (tx a))) := by
        have := sizeLine_big
        show (if ((("\n" : Str).length == 0) = false ∧ (tx t).length + 2 ≤ sizeLine) then some (Ob.lst ((Txt.split (tx t) "\n").map D.str)) else none) = _
        rw [if_pos ⟨by decide +kernel, by rw [tx_len]; omega⟩, split_lns hch, List.map_map]
        rfl
      have f : fMth oSplit (xV 0) (xC (.str "\n")) (wE t st.length none none) (st ++ [.lst []]) = some (.ok (.lst ((lns t).map fun a => D.str (tx a))), st ++ [.lst []]) := by
        unfold fMth
        rw [ev_xV (d := .str (tx t)) rfl, ev_bnd_ok]
        dsimp only
        rw [ev_xC, ev_bnd_ok]
        rw [show oSplit (.str (tx t)) [.str "\n"] (st ++ [.lst []]) = _ from sp]
      rw [ev_iOf, ev_aC, ev_xVal, f, ev_bnd_ok]
      dsimp only
      rw [ev_bnd_ok, ev_aN, ev_bnd_ok, ev_bnd_ok]
      show (match (some (⟨enumD ((lns t).map fun a => D.str (tx a)), []⟩ : Itm)) with
        | some i => some (Res.ok i, st ++ [Ob.lst []])
        | none => none) = _
      rw [enum_items]
    obtain ⟨S', p1, p2⟩ := h4 (st ++ [.lst []]) st.length [] none none (app_at st _ []) (by simp; omega)
    have hcut := p1.cut
    refine ⟨S'.drop st.length, ?_⟩
    rw [← hcut]
    cases err with
    | none =>
      obtain ⟨q1, x2', x3', q2⟩ := p2
      have wf : G_words_of [.str (tx t)] st = some (.ok (.ref st.length), S') := by
        refine runX_rt ?_
        unfold m_words_of
        rw [ev_sSeq w1, ev_sSeq w2]
        rw [ev_sSeq (e1 := wE t st.length x2' x3') (st1 := S') (by
          unfold m_words_of_3
          rw [ev_sFor, it, ev_bndS_ok]
          exact q2)]
        simp [m_words_of_4, wE]
      refine ⟨?_, fun _ => ?_⟩
      · refine runF_rt ?_
        unfold m_law_heard m_law_heard_1
        refine ev_try_rt ?_
        simp [b_law_heard_1y, m_law_heard_1y1, env0, wf, fz 2, outD]
      · rw [List.getElem?_drop, Nat.add_zero]
        simpa using q1
    | some p =>
      obtain ⟨e', q⟩ := p2
      have wf : G_words_of [.str (tx t)] st = some (.exc (errX p.1 p.2), S') := by
        refine runX_exc (e1 := e') ?_
        unfold m_words_of
        rw [ev_sSeq w1, ev_sSeq w2]
        refine ev_sSeq_exc ?_
        unfold m_words_of_3
        rw [ev_sFor, it, ev_bndS_ok]
        exact q
      refine ⟨?_, fun h => (by cases h)⟩
      refine runF_rt ?_
      unfold m_law_heard m_law_heard_1
      refine ev_try_exc (x := errX p.1 p.2) (e1 := [some (.str (tx t)), none]) (st1 := S') (t := ("NoText", ([("line" : Str), ("column" : Str)] : List Str), [true, false, true])) ?_ ?_ rfl rfl ?_
      · simp [b_law_heard_1y, m_law_heard_1y1, env0, wf]
      · rfl
      · show xTup (aC (xC (.str "text")) (aC (xFld "line" (errX p.1 p.2)) (aC (xFld "column" (errX p.1 p.2)) aN))) (hEnv (some 1) [some (.str (tx t)), none]) S' = _
        have f1 : ∀ e, xFld "line" (errX p.1 p.2) e S' = some (.ok (.int (p.1 : Int)), S') := fun e => rfl
        have f2 : ∀ e, xFld "column" (errX p.1 p.2) e S' = some (.ok (.int (p.2 : Int)), S') := fun e => rfl
        simp [f1, f2, fz 3, outD, errD]
  · -- the law's
    have s1 : m_law_scanned_1 (env0 8 [D.str (tx t)]) st = some (.nx (lE t st.length 0 0 0 none none none), st ++ [.lst []]) := by
      simp [m_law_scanned_1, env0, lE, fz 4, gT, gsC]
    have q := h5 (st ++ [.lst []]) st.length [] none none none (by simp) (by simp; omega)
    rw [set_app] at q
    cases err with
    | none =>
      obtain ⟨e', q, q2⟩ := q
      rw [set_app] at q
      refine ⟨[.lst (ws.map Wt.d)], ?_, fun _ => rfl⟩
      refine runF_rt ?_
      unfold m_law_scanned
      rw [ev_sSeq s1, ev_sSeq (show m_law_scanned_2 _ _ = _ from ev_while q)]
      simp [m_law_scanned_3, ev_xV q2, fz 2, outD]
    | some p =>
      obtain ⟨ds', q⟩ := q
      rw [set_app] at q
      refine ⟨[.lst ds'], ?_, fun h => (by cases h)⟩
      refine runF_rt ?_
      unfold m_law_scanned
      rw [ev_sSeq s1]
      exact ev_sSeq_rt (show m_law_scanned_2 _ _ = _ from ev_while q)
end
end K06
end FW

set_option maxHeartbeats 4000000
namespace FW
open PySem PySem.Spec L2
namespace K06
/-! ### data that may be shown -/
def sml (i : Int) : Prop := i.natAbs < 10 ^ 18
theorem show_int {i : Int} (h : sml i) : PyData.showable (.int i) = true := by
  have h1 : i.natAbs < 2 ^ 1920 := Nat.lt_of_lt_of_le h (by decide +kernel)
  have h2 : i.natAbs.log2 < 1920 := by
    by_cases e : i.natAbs = 0
    · rw [e]; decide
    · exact (Nat.log2_lt e).mpr h1
  simp only [PyData.showable]
  exact decide_eq_true h2
theorem short_int {i : Int} (h : sml i) : PyData.leavesShort 30 (.int i) = true := by
  have e := int_text_length_le10 (k := 18) (by decide) h
  simp only [PyData.leavesShort, PyData.shown]
  refine decide_eq_true ?_
  show (Str.ofString (toString i)).length ≤ 30
  rw [ofString_length]
  omega
/-- a good datum: depth at most k, bulk at most b -/
structure Gz (k b : Nat) (d : PyData) : Prop where
  can : PyData.canLay0 d = true
  sho : PyData.showable d = true
  sht : PyData.leavesShort 30 d = true
  dep : PyData.depth d ≤ k
  blk : PyData.bulk d ≤ b
structure Gzs (k b : Nat) (d : List PyData) : Prop where
  can : PyData.canLayAll0 d = true
  sho : PyData.showableAll d = true
  sht : PyData.leavesShortAll 30 d = true
  dep : PyData.depthAll d ≤ k
  blk : PyData.bulkAll d ≤ b
theorem Gz.le {k b k' b' : Nat} {d : PyData} (h : Gz k b d) (hk : k ≤ k') (hb : b ≤ b') : Gz k' b' d := ⟨h.can, h.sho, h.sht, Nat.le_trans h.dep hk, Nat.le_trans h.blk hb⟩
theorem Gzs.le {k b k' b' : Nat} {d : List PyData} (h : Gzs k b d) (hk : k ≤ k') (hb : b ≤ b') : Gzs k' b' d := ⟨h.can, h.sho, h.sht, Nat.le_trans h.dep hk, Nat.le_trans h.blk hb⟩
theorem Gzs.tup {k b : Nat} {ds : List PyData} (h : Gzs k b ds) : Gz (k + 1) b (.tuple ds) :=
  ⟨by simp only [PyData.canLay0, h.can], by simp only [PyData.showable, h.sho], by simp only [PyData.leavesShort, h.sht], by simp only [PyData.depth]; have := h.dep; omega, by simp only [PyData.bulk]; exact h.blk⟩
theorem Gzs.lst {k b : Nat} {ds : List PyData} (h : Gzs k b ds) : Gz (k + 1) b (.list ds) :=
  ⟨by simp only [PyData.canLay0, h.can], by simp only [PyData.showable, h.sho], by simp only [PyData.leavesShort, h.sht], by simp only [PyData.depth]; have := h.dep; omega, by simp only [PyData.bulk]; exact h.blk⟩
theorem Gzs.nil : Gzs 0 0 [] := ⟨by simp only [PyData.canLayAll0], by simp only [PyData.showableAll], by simp only [PyData.leavesShortAll], by simp only [PyData.depthAll]; omega, by simp only [PyData.bulkAll]; omega⟩
theorem Gzs.cons {k b k' b' : Nat} {d : PyData} {ds : List PyData} (h : Gz k b d) (t : Gzs k' b' ds) : Gzs (max k k') (b + 1 + b') (d :: ds) :=
  ⟨by simp only [PyData.canLayAll0, h.can, t.can, Bool.and_self], by simp only [PyData.showableAll, h.sho, t.sho, Bool.and_self], by simp only [PyData.leavesShortAll, h.sht, t.sht, Bool.and_self],
    by simp only [PyData.depthAll]; have := h.dep; have := t.dep; omega, by simp only [PyData.bulkAll]; have := h.blk; have := t.blk; omega⟩
theorem Gzs.of {k b : Nat} : ∀ {ds : List PyData}, (∀ d ∈ ds, Gz k b d) → Gzs k (ds.length * (b + 1)) ds
  | [], _ => Gzs.nil.le (Nat.zero_le _) (Nat.zero_le _)
  | d :: ds, h => (Gzs.cons (h d (by simp)) (Gzs.of fun x hx => h x (List.mem_cons_of_mem _ hx))).le (by omega) (by rw [List.length_cons, Nat.add_mul]; omega)
theorem gz_tx {l : List Nat} {n : Nat} (hl : l.length ≤ n) (hc : ∀ c ∈ l, c < 200) : Gz 0 n (.str (tx l)) := by
  refine ⟨?_, by simp only [PyData.showable], ?_, by simp only [PyData.depth]; omega, by simp only [PyData.bulk]; exact Nat.le_trans (Nat.le_of_eq (tx_len l)) hl⟩
  · simp only [PyData.canLay0]
    unfold PyData.strOk
    rw [Array.all_eq_true_iff_forall_mem]
    intro c h
    have : c ∈ l := by simpa [tx] using h
    have := hc c this
    simp
    omega
  · simp only [PyData.leavesShort]
    rw [List.all_eq_true]
    intro c h
    have := hc c (by simpa using h)
    refine decide_eq_true ?_
    have : 200 ≤ 16 ^ 8 := by decide
    omega
theorem gz_int {i : Int} (h : sml i) : Gz 0 0 (.int i) := ⟨by simp only [PyData.canLay0], show_int h, short_int h, by simp only [PyData.depth]; omega, by simp only [PyData.bulk]; omega⟩
theorem gz_nat {n : Nat} (h : n ≤ 10000) : Gz 0 0 (.int (n : Int)) := gz_int (by unfold sml; rw [Int.natAbs_natCast]; have : 10000 < 10 ^ 18 := by decide
                                                                                 omega)
theorem Gz.shaped {k b : Nat} {d : PyData} (h : Gz k b d) (hk : k ≤ 64) : SeqAt.shaped d = true := by
  unfold SeqAt.shaped
  rw [h.can, Bool.true_and]
  exact decide_eq_true (Nat.le_trans h.dep hk)
theorem Gz.shows {k b : Nat} {d : PyData} (h : Gz k b d) (hk : k ≤ 64) (hb : b ≤ 500000) : shows d := by
  refine ⟨h.sho, Nat.le_trans h.dep hk, ?_⟩
  have a := PyData.shown_le_bulk 30 (by decide) d h.sht
  have c := h.blk
  rw [sizeLine_eq]
  omega
/-- the same data -/
theorem g_alike {x y : D} {st : Store} {p : PyData} {ds es : List D} {k b : Nat} (hx : PD st x p) (hy : PD st y p) (qx : seqOf x st = some ds) (qy : seqOf y st = some es) (h : Gz k b p) (hk : k ≤ 64) (hb : b ≤ 500000) : G_law_alike [x, y] st = some (.bl true, st) := by
  have e1 : oEqA x y st = some (.bl true, st) := by
    have d := oData_of (g := PyData.eqv) hx hy (h.shaped hk) (h.shaped hk)
    rw [SeqAt.eqv_refl _ h.can] at d
    cases x with
    | str z => cases qx
    | _ => exact d
  have r : ∀ z zs, PD st z p → seqOf z st = some zs → fReprB [z] st = some (.str p.shown, st) := fun z zs hz hq => by
    have e := fRepr_of hz (h.shows hk hb) hq
    cases z with
    | bl b => cases hq
    | _ => exact e
  have e2 : oEqA (.str p.shown) (.str p.shown) st = some (.bl true, st) := by rw [ev_eqS]; simp
  refine runF_rt ?_
  unfold m_law_alike m_law_alike_1
  rw [ev_sRet, ev_xAndV_t (st1 := st) (d := .bl true) (by simp [env0, e1]) rfl]
  simp [env0, r x ds hx qx, r y es hy qy, e2]
/-! ### what is told of a text, as data -/
def Wt.y (w : Wt) : PyData := .tuple [.str (tx w.w), .int (w.row : Int), .int (w.col : Int)]
theorem pd_w {st : Store} (w : Wt) : PD st w.d w.y := .tup (.cons (.str _) (.cons (.int _) (.cons (.int _) .nil)))
theorem pd_ws {st : Store} : ∀ ws : List Wt, PDs st (ws.map Wt.d) (ws.map Wt.y)
  | [] => .nil
  | w :: ws => .cons (pd_w w) (pd_ws ws)
theorem gz_ws {ws : List Wt} (h : Wok ws) (hl : ws.length ≤ 1000) : Gzs 1 50000 (ws.map Wt.y) := by
  have := Gzs.of (k := 1) (b := 44) (ds := ws.map Wt.y) fun d hd => by
    obtain ⟨w, hw, rfl⟩ := List.mem_map.mp hd
    obtain ⟨h1, h2, h3, h4⟩ := h w hw
    exact (Gzs.cons (gz_tx h1 h4) (.cons (gz_nat (by omega)) (.cons (gz_nat (by omega)) .nil))).tup.le (by omega) (by omega)
  rw [List.length_map] at this
  exact this.le (by omega) (by omega)
theorem told_tx : ("told" : Str) = tx [116, 111, 108, 100] := by decide +kernel
theorem text_tx : ("text" : Str) = tx [116, 101, 120, 116] := by decide +kernel
theorem wrong_tx : ("wrong" : Str) = tx [119, 114, 111, 110, 103] := by decide +kernel
/-- both are alike -/
theorem alike_out {st : Store} {ws : List Wt} {err : Option (Nat × Nat)} {a b : Nat} (hw : Wok ws) (hl : ws.length ≤ 1000) (he : ∀ p, err = some p → p.1 ≤ 4000 ∧ p.2 ≤ 4000) (ha : err = none → st[a]? = some (.lst (ws.map Wt.d))) (hb : err = none → st[b]? = some (.lst (ws.map Wt.d))) :
    G_law_alike [outD a err, outD b err] st = some (.bl true, st) := by
  cases err with
  | none =>
    have g : Gz 3 51000 (.tuple [.str "told", .list (ws.map Wt.y)]) := by
      rw [told_tx]
      exact (Gzs.cons (gz_tx (n := 4) (by decide) (by decide)) (.cons (gz_ws hw hl).lst .nil)).tup.le (by omega) (by omega)
    exact g_alike (.tup (.cons (.str _) (.cons (.ref (ha rfl) (pd_ws ws)) .nil))) (.tup (.cons (.str _) (.cons (.ref (hb rfl) (pd_ws ws)) .nil))) rfl rfl g (by omega) (by omega)
  | some p =>
    obtain ⟨h1, h2⟩ := he p rfl
    have g : Gz 1 100 (.tuple [.str "text", .int (p.1 : Int), .int (p.2 : Int)]) := by
      rw [text_tx]
      exact (Gzs.cons (gz_tx (n := 4) (by decide) (by decide)) (.cons (gz_nat (by omega)) (.cons (gz_nat (by omega)) .nil))).tup.le (by omega) (by omega)
    exact g_alike (.tup (.cons (.str _) (.cons (.int _) (.cons (.int _) .nil)))) (.tup (.cons (.str _) (.cons (.int _) (.cons (.int _) .nil)))) rfl rfl g (by omega) (by omega)
theorem alike_wrong {st : Store} : G_law_alike [.tup [.str "wrong", .int 0], .tup [.str "wrong", .int 0]] st = some (.bl true, st) := by
  have g : Gz 1 100 (.tuple [.str "wrong", .int 0]) := by
    rw [wrong_tx]
    exact (Gzs.cons (gz_tx (n := 5) (by decide) (by decide)) (.cons (gz_nat (n := 0) (by omega)) .nil)).tup.le (by omega) (by omega)
  exact g_alike (.tup (.cons (.str _) (.cons (.int _) .nil))) (.tup (.cons (.str _) (.cons (.int _) .nil))) rfl rfl g (by omega) (by omega)
end K06
end FW

set_option maxHeartbeats 4000000
namespace FW
open PySem PySem.Spec L2
namespace K06
/-! ### words drawn -/
def okN (n : Nat) (x : Str) : Prop := x.length ≤ n ∧ ∀ c ∈ x.cps.toList, c < 200
instance {n : Nat} {x : Str} : Decidable (okN n x) := by unfold okN; infer_instance
theorem okN.cat {n m : Nat} {x y : Str} (hx : okN n x) (hy : okN m y) : okN (n + m) (x ++ y) := by
  have hcps : (x ++ y).cps = x.cps ++ y.cps := rfl
  constructor
  · show (x ++ y).cps.size ≤ _
    rw [hcps, Array.size_append]
    exact Nat.add_le_add hx.1 hy.1
  · intro c hc
    rw [hcps, Array.toList_append] at hc
    exact (List.mem_append.mp hc).elim (hx.2 c) (hy.2 c)
theorem okN.le {n m : Nat} {x : Str} (h : okN n x) (l : n ≤ m) : okN m x := ⟨Nat.le_trans h.1 l, h.2⟩
theorem add_ok {n m : Nat} {x y : Str} {st : Store} (hx : okN n x) (hy : okN m y) (h : n + m ≤ 5000) : oAdd (.str x) (.str y) st = some (.str (x ++ y), st) := by
  show (if x.length + y.length ≤ sizeLine then some (D.str (x ++ y), st) else none) = _
  have := sizeLine_big
  have := hx.1
  have := hy.1
  rw [if_pos (by omega)]
def some1 : List Str := ["x", "List", "List.map", "M.Cons", "let", "give", "->", "-", "=", "<", "+", "*", "(", ")", "{", "}", ","]
def some2 : List Str := [".", "|", ":", "_", "5", "~7", "0", "2147483647", "~2147483648", "?0", "?123456789", "A.B.c", "x.y"]
def odd1 : List Str := ["~0", "05", "2147483648", "~2147483649", "?01", "?", "~", "?1234567890", strRep "a" 20, strRep "a" 21, strRep "A" 21 ++ (".x" : Str)]
def odd2 : List Str := [("A." : Str) ++ strRep "b" 21, "A.get", "A.5", "A._)", "A.", ">", "/", "$", "!", "[", "'", "~~1"]
def odd3 : Str := strRep "x" 20 ++ ("." : Str) ++ strRep "y" 20
theorem ok_some : ∀ x ∈ some1 ++ some2, okN 50 x := by decide +kernel
theorem ok_odd : ∀ x ∈ odd1 ++ odd2 ++ [odd3], okN 50 x := by decide +kernel
theorem ok_bar : ∀ x ∈ BARR, okN 10 x := by decide +kernel
theorem ok_mod : ∀ x ∈ (["", "M."] : List Str), okN 10 x := by decide +kernel
theorem ev_rep {x : Str} {k : Nat} {st : Store} (h : 2 ≤ k ∧ k ≤ 100 ∧ x.length = 1) : oMulS (.str x) (.int (k : Int)) st = some (.str (strRep x k), st) := by
  show (if 2 ≤ (k : Int) ∧ 1 ≤ x.length ∧ (x.length : Int) * (k : Int) ≤ 1000000 then some (D.str (strRep x (k : Int).toNat), st) else none) = _
  obtain ⟨h1, h2, h3⟩ := h
  rw [if_pos ⟨by omega, by omega, by rw [h3]; omega⟩]
  rfl
theorem rep_ok : okN 30 (strRep "a" 20) ∧ okN 30 (strRep "a" 21) ∧ okN 30 (strRep "A" 21) ∧ okN 30 (strRep "b" 21) ∧ okN 30 (strRep "x" 20) ∧ okN 30 (strRep "y" 20) ∧ okN 30 ".x" ∧ okN 30 "A." ∧ okN 30 "." := by decide +kernel
theorem BI.refl {st : Store} {b : Nat} (h : Bag st b) : BI st b st := by
  obtain ⟨o, e, ho⟩ := h
  refine ⟨o, ho, ?_⟩
  apply List.ext_getElem?
  intro i
  by_cases hi : i = b
  · subst hi
    rw [ev_set_get (List.getElem?_eq_some_iff.mp e).1, e]
  · rw [List.getElem?_set_ne (Ne.symm hi)]
theorem BI.at_ {st st' : Store} {b j : Nat} (h : BI st b st') (hj : j ≠ b) : st'[j]? = st[j]? := by
  obtain ⟨o, _, rfl⟩ := h
  rw [List.getElem?_set_ne (Ne.symm hj)]
theorem BI.len {st st' : Store} {b : Nat} (h : BI st b st') : st'.length = st.length := by
  obtain ⟨o, _, rfl⟩ := h
  simp
theorem Bag.app {st : Store} {b : Nat} (h : Bag st b) (g : Store) : Bag (st ++ g) b := by
  obtain ⟨o, e, ho⟩ := h
  exact ⟨o, by rw [List.getElem?_append_left (List.getElem?_eq_some_iff.mp e).1]; exact e, ho⟩
theorem str_of {v : D} {xs : List Str} (h : v ∈ xs.map D.str) : ∃ x ∈ xs, v = .str x := by
  obtain ⟨x, hx, e⟩ := List.mem_map.mp h
  exact ⟨x, hx, e.symm⟩
section
variable {st : Store} {b : Nat}
theorem near_6 {S : Store} (hB : Bag S b) {y2 : Option D} : ∃ (ys : List Str) (S' : Store), m_law_near_word_6 [some (.ref b), some (.lst ((some1 ++ some2).map D.str)), y2, none] S = some (.nx [some (.ref b), some (.lst ((some1 ++ some2 ++ ys).map D.str)), y2, none], S') ∧ BI S b S' ∧ ys.length = 6 ∧ ∀ y ∈ ys, okN 50 y := by
  obtain ⟨ys, S', h1, h2, h3, h4⟩ := ev_lcE (vs := [3]) (mi := iOf rng1 (aC (xC (.int 6)) aN)) (g := gN 3) (el := x2 oAdd (xCl 2 G_law_some (aC (xV 0) (aC (xVal (xLst (aC (xC (.str "")) (aC (xC (.str "M.")) aN)))) aN))) (xCl 2 G_law_some (aC (xV 0) (aC (xCl 0 G_law_barred aN) aN))))
    (e := [some (.ref b), some (.lst ((some1 ++ some2).map D.str)), y2, none]) (I := fun st => BI S b st) (dF := fun (i : Nat) => D.int (i : Int)) (hD := D.str) (fun _ => ()) (fun _ => ()) (okN 50) (xs := List.range 6) (st := S) (st1 := S) (rng_nat (n := 6) (by omega) (by simp)) (BI.refl hB) (fun i hi st hI => by
      have hb1 := hI.bag hB
      obtain ⟨v1, st1, m1, e1, i1⟩ := some_bi hb1 (ds := [D.str "", .str "M."]) (by simp) (by simp)
      obtain ⟨v2, st2, m2, e2, i2⟩ := some_bi (i1.bag hb1) (ds := BARR.map D.str) (by simp [BARR]) (by simp [BARR])
      obtain ⟨w1, k1, rfl⟩ := str_of (xs := ["", "M."]) m1
      obtain ⟨w2, k2, rfl⟩ := str_of m2
      have o1 := ok_mod w1 k1
      have o2 := ok_bar w2 k2
      refine ⟨[some (.ref b), some (.lst ((some1 ++ some2).map D.str)), y2, some (.int (i : Int))], w1 ++ w2, st2, rfl, ?_, hI.trans (i1.trans i2), rfl, (o1.cat o2).le (by omega)⟩
      simp [fz 2, e1, g_barred, e2, add_ok o1 o2 (by omega)]) (by rw [List.length_range]; exact fz 6)
  have hlen : ys.length = 6 := by
    have := congrArg List.length h3
    simpa using this
  refine ⟨ys, S', ?_, h2, hlen, h4⟩
  unfold m_law_near_word_6
  rw [ev_sAsg, ev_x2, ev_xV rfl, ev_bnd_ok, ev_xVal, h1, ev_bnd_ok]
  have cat : oAdd (.lst ((some1 ++ some2).map D.str)) (.lst (ys.map D.str)) S' = some (.lst ((some1 ++ some2).map D.str ++ ys.map D.str), S') := by
    show (if ((some1 ++ some2).map D.str).length + (ys.map D.str).length ≤ sizeLine then some (D.lst ((some1 ++ some2).map D.str ++ ys.map D.str), S') else none) = _
    rw [List.length_map, List.length_map, hlen, if_pos (fz _ (by decide))]
  dsimp only
  rw [ev_bnd_ok, cat, ← List.map_append]
  rfl
theorem g_near_word (hB : Bag st b) : ∃ x st', okN 50 x ∧ G_law_near_word [.ref b] st = some (.str x, st') ∧ Bag st' b := by
  obtain ⟨r1, r2, r3, r4, r5, r6, k1, k2, k3⟩ := rep_ok
  have hb := bag_len hB
  have z : ∀ k : Nat, k ≤ 40 → k ≤ sizeLine := fun k h => fz k (by omega)
  have s1 : m_law_near_word_1 [some (.ref b), none, none, none] st = some (.nx [some (.ref b), some (.lst (some1.map D.str)), none, none], st) := by
    simp [m_law_near_word_1, some1, z]
  have s2 : m_law_near_word_2 [some (.ref b), some (.lst (some1.map D.str)), none, none] st = some (.nx [some (.ref b), some (.lst ((some1 ++ some2).map D.str)), none, none], st) := by
    have cat : oAdd (.lst (some1.map D.str)) (.lst (some2.map D.str)) st = some (.lst ((some1 ++ some2).map D.str), st) := by
      rw [List.map_append]
      show (if (some1.map D.str).length + (some2.map D.str).length ≤ sizeLine then some (D.lst (some1.map D.str ++ some2.map D.str), st) else none) = _
      rw [if_pos (fz _ (by decide))]
    have l2 : xVal (xLst (aC (xC (.str ".")) (aC (xC (.str "|")) (aC (xC (.str ":")) (aC (xC (.str "_")) (aC (xC (.str "5")) (aC (xC (.str "~7")) (aC (xC (.str "0")) (aC (xC (.str "2147483647")) (aC (xC (.str "~2147483648")) (aC (xC (.str "?0")) (aC (xC (.str "?123456789")) (aC (xC (.str "A.B.c")) (aC (xC (.str "x.y")) aN)))))))))))))) [some (.ref b), some (.lst (some1.map D.str)), none, none] st = some (.ok (.lst (some2.map D.str)), st) := by
      simp [some2, z]
    unfold m_law_near_word_2
    rw [ev_sAsg, ev_x2, ev_xV rfl, ev_bnd_ok, l2, ev_bnd_ok, cat]
    rfl
  have p20 : ∀ (x : Str) (S : Store), x.length = 1 → oMulS (.str x) (.int 20) S = some (.str (strRep x 20), S) := fun x S h => ev_rep (k := 20) ⟨by omega, by omega, h⟩
  have p21 : ∀ (x : Str) (S : Store), x.length = 1 → oMulS (.str x) (.int 21) S = some (.str (strRep x 21), S) := fun x S h => ev_rep (k := 21) ⟨by omega, by omega, h⟩
  have la : ("a" : Str).length = 1 ∧ ("A" : Str).length = 1 ∧ ("b" : Str).length = 1 ∧ ("x" : Str).length = 1 ∧ ("y" : Str).length = 1 := by decide +kernel
  obtain ⟨l1, l2, l3, l4, l5⟩ := la
  have s3 : m_law_near_word_3 [some (.ref b), some (.lst ((some1 ++ some2).map D.str)), none, none] st = some (.nx [some (.ref b), some (.lst ((some1 ++ some2).map D.str)), some (.ref st.length), none], st ++ [.lst (odd1.map D.str)]) := by
    simp [-List.map_append, m_law_near_word_3, p20 _ _ l1, p21 _ _ l1, p21 _ _ l2, add_ok r3 k1 (by omega), z]
    rfl
  have s4 : m_law_near_word_4 [some (.ref b), some (.lst ((some1 ++ some2).map D.str)), some (.ref st.length), none] (st ++ [.lst (odd1.map D.str)]) = some (.nx [some (.ref b), some (.lst ((some1 ++ some2).map D.str)), some (.ref (st.length + 1)), none], st ++ [.lst (odd1.map D.str)] ++ [.lst ((odd1 ++ odd2).map D.str)]) := by
    have l2 : xVal (xLst (aC (x2 oAdd (xC (.str "A.")) (x2 oMulS (xC (.str "b")) (xC (.int 21)))) (aC (xC (.str "A.get")) (aC (xC (.str "A.5")) (aC (xC (.str "A._)")) (aC (xC (.str "A.")) (aC (xC (.str ">")) (aC (xC (.str "/")) (aC (xC (.str "$")) (aC (xC (.str "!")) (aC (xC (.str "[")) (aC (xC (.str "'")) (aC (xC (.str "~~1")) aN))))))))))))) [some (.ref b), some (.lst ((some1 ++ some2).map D.str)), some (.ref st.length), none] (st ++ [.lst (odd1.map D.str)]) = some (.ok (.lst (odd2.map D.str)), st ++ [.lst (odd1.map D.str)]) := by
      simp [-List.map_append, p21 _ _ l3, add_ok k2 r4 (by omega), z]
      rfl
    have cat : pCat (.ref st.length) (.lst (odd2.map D.str)) (st ++ [.lst (odd1.map D.str)]) = some (.lst ((odd1 ++ odd2).map D.str)) := by
      have e1 : lstOf (.ref st.length) (st ++ [.lst (odd1.map D.str)]) = some (odd1.map D.str) := by simp only [lstOf, app_at st _ []]
      have e2 : lstOf (.lst (odd2.map D.str)) (st ++ [.lst (odd1.map D.str)]) = some (odd2.map D.str) := rfl
      unfold pCat
      rw [e1, e2]
      dsimp only
      rw [if_pos (fz _ (by decide)), List.map_append]
    unfold m_law_near_word_4
    rw [ev_sAsg, ev_xNew, ev_f2, ev_xV rfl, ev_bnd_ok, l2, ev_bnd_ok]
    rw [cat]
    simp [-List.map_append]
  have s5 : m_law_near_word_5 [some (.ref b), some (.lst ((some1 ++ some2).map D.str)), some (.ref (st.length + 1)), none] (st ++ [.lst (odd1.map D.str)] ++ [.lst ((odd1 ++ odd2).map D.str)]) = some (.nx [some (.ref b), some (.lst ((some1 ++ some2).map D.str)), some (.ref (st.length + 1)), none], st ++ [.lst (odd1.map D.str)] ++ [.lst ((odd1 ++ odd2 ++ [odd3]).map D.str)]) := by
    have at1 : (st ++ [Ob.lst (odd1.map D.str)] ++ [.lst ((odd1 ++ odd2).map D.str)])[st.length + 1]? = some (.lst ((odd1 ++ odd2).map D.str)) := by
      have := app_at (st ++ [Ob.lst (odd1.map D.str)]) (.lst ((odd1 ++ odd2).map D.str)) []
      simpa using this
    have ap := ev_app (y := .str odd3) at1 (by rw [List.length_map]; decide)
    have sa : (st ++ [Ob.lst (odd1.map D.str)] ++ [Ob.lst ((odd1 ++ odd2).map D.str)]).set (st.length + 1) (Ob.lst ((odd1 ++ odd2).map D.str ++ [D.str odd3])) = st ++ [.lst (odd1.map D.str)] ++ [.lst ((odd1 ++ odd2 ++ [odd3]).map D.str)] := by
      have := set_app (st ++ [Ob.lst (odd1.map D.str)]) (.lst ((odd1 ++ odd2).map D.str)) (.lst ((odd1 ++ odd2).map D.str ++ [D.str odd3]))
      rw [List.length_append, List.length_singleton] at this
      rw [this, List.map_append (l₁ := odd1 ++ odd2)]
      rfl
    rw [sa] at ap
    have c1 : ∀ S : Store, oAdd (.str (strRep "x" 20)) (.str ".") S = some (.str (strRep "x" 20 ++ ("." : Str)), S) := fun S => add_ok r5 k3 (by omega)
    have c2 : ∀ S : Store, oAdd (.str (strRep "x" 20 ++ ("." : Str))) (.str (strRep "y" 20)) S = some (.str odd3, S) := fun S => add_ok (r5.cat k3) r6 (by omega)
    unfold m_law_near_word_5
    rw [ev_sEx, ev_xMeth, ev_xV rfl, ev_bnd_ok, if_pos (ty_lst at1)]
    simp only [ev_aC, ev_x2, ev_xC, ev_bnd_ok, p20 _ _ l4, p20 _ _ l5, ev_ok0, c1, c2, ev_aN, ap, ev_bndS_ok]
  have hB5 : Bag (st ++ [Ob.lst (odd1.map D.str)] ++ [.lst ((odd1 ++ odd2 ++ [odd3]).map D.str)]) b := (hB.app _).app _
  have at5 : (st ++ [Ob.lst (odd1.map D.str)] ++ [.lst ((odd1 ++ odd2 ++ [odd3]).map D.str)])[st.length + 1]? = some (.lst ((odd1 ++ odd2 ++ [odd3]).map D.str)) := by
    have := app_at (st ++ [Ob.lst (odd1.map D.str)]) (.lst ((odd1 ++ odd2 ++ [odd3]).map D.str)) []
    simpa using this
  generalize st ++ [Ob.lst (odd1.map D.str)] ++ [.lst ((odd1 ++ odd2 ++ [odd3]).map D.str)] = S5 at *
  obtain ⟨ys, S6, s6, i6, hy, oky⟩ := near_6 hB5 (y2 := some (.ref (st.length + 1)))
  have hB6 := i6.bag hB5
  have at6 := (i6.at_ (show st.length + 1 ≠ b by omega)).trans at5
  obtain ⟨v, S7, t7, hv, i7⟩ := take_bi hB6 (m := 6) (by omega) (by omega)
  have hB7 := i7.bag hB6
  have at7 := (i7.at_ (show st.length + 1 ≠ b by omega)).trans at6
  have ev7 : (x2 oEqA (xCl 2 G_law_take (aC (xV 0) (aC (xC (.int 6)) aN))) (xC (.int 0))) [some (.ref b), some (.lst ((some1 ++ some2 ++ ys).map D.str)), some (.ref (st.length + 1)), none] S6 = some (.ok (.bl ((v : Int) == 0)), S7) := by
    simp [-List.map_append, t7]
  obtain ⟨x, S8, hx, e8, b8⟩ : ∃ x S8, okN 50 x ∧ m_law_near_word_7 [some (.ref b), some (.lst ((some1 ++ some2 ++ ys).map D.str)), some (.ref (st.length + 1)), none] S6 = some (.rt (.str x), S8) ∧ Bag S8 b := by
    unfold m_law_near_word_7
    cases hv0 : ((v : Int) == 0) with
    | true =>
      rw [hv0] at ev7
      have sq : ∀ o, seqOf (.ref (st.length + 1)) (S7.set b o) = some ((odd1 ++ odd2 ++ [odd3]).map D.str) := fun o => by
        have : (S7.set b o)[st.length + 1]? = some (.lst ((odd1 ++ odd2 ++ [odd3]).map D.str)) := by rw [List.getElem?_set_ne (by omega)]; exact at7
        simp only [seqOf, rdlOf, this]
      have sq0 : seqOf (.ref (st.length + 1)) S7 = some ((odd1 ++ odd2 ++ [odd3]).map D.str) := by simp only [seqOf, rdlOf, at7]
      obtain ⟨w, o, m, e, ho⟩ := g_some hB7 sq0 (fun o _ => sq o) (by rw [List.length_map]; decide) (by rw [List.length_map]; decide)
      obtain ⟨x, hx, rfl⟩ := str_of m
      refine ⟨x, _, ok_odd x hx, ?_, hB7.set ho⟩
      rw [ev_sRet, ev_xCl, ev_aC, ev_xV rfl, ev_bnd_ok, ev_aC, ev_xIf_t (st1 := S7) (by rw [ev_xTst, ev7]; rfl), ev_xV rfl, ev_bnd_ok, ev_aN, ev_bnd_ok, ev_bnd_ok, ev_bnd_ok]
      rw [if_pos (show ([D.ref b, D.ref (st.length + 1)] : List D).length = 2 from rfl), e]
      rfl
    | false =>
      rw [hv0] at ev7
      have h30 : (some1 ++ some2).length = 30 := by decide
      obtain ⟨w, S8, m, e, i8⟩ := some_bi hB7 (ds := (some1 ++ some2 ++ ys).map D.str) (by rw [List.length_map, List.length_append, hy]; omega) (by rw [List.length_map, List.length_append, hy]; omega)
      obtain ⟨x, hx, rfl⟩ := str_of m
      refine ⟨x, S8, (List.mem_append.mp hx).elim (ok_some x) (oky x), ?_, i8.bag hB7⟩
      rw [ev_sRet, ev_xCl, ev_aC, ev_xV rfl, ev_bnd_ok, ev_aC, ev_xIf_f (st1 := S7) (by rw [ev_xTst, ev7]; rfl), ev_xV rfl, ev_bnd_ok, ev_aN, ev_bnd_ok, ev_bnd_ok, ev_bnd_ok]
      rw [if_pos (show ([D.ref b, D.lst ((some1 ++ some2 ++ ys).map D.str)] : List D).length = 2 from rfl), e]
      rfl
  refine ⟨x, S8, hx, runF_rt ?_, b8⟩
  unfold m_law_near_word
  rw [show env0 4 [D.ref b] = [some (.ref b), none, none, none] from rfl, ev_sSeq s1, ev_sSeq s2, ev_sSeq s3, ev_sSeq s4, ev_sSeq s5, ev_sSeq s6, e8]
end
end K06
end FW

set_option maxHeartbeats 4000000
namespace FW
open PySem PySem.Spec L2
namespace K06
/-! ### odd values -/
def oddA : List D := [.non, .bl true, .bl false, .int 0, .int 1, .int (-1), .int (10 ^ 39), .str "", .str "x", .str "A", .str "let", .str "M.x", .str "x.y", .str "A.B", .tup [], .lst [], .dct [] [], .tup [.int 0], .lst [.int 0]]
def oddB : List D := [.tup [.str "num"], .tup [.str "num", .int 1], .tup [.str "num", .bl true], .tup [.str "num", .int 2147483648], .tup [.str "any"], .lst [.str "any"], .tup [.str "var", .int 0], .tup [.str "var", .int (-1)]]
def oddC : List D := [.tup [.str "tuple", .tup [.tup [.str "num", .int 1]]], .tup [.str "name", .str "Let"], .tup [.str "name", .str "end"], .tup [.str "bind", .str "M.x"], .tup [.str "make", .str "A", .tup []]]
def oddE : List D := [.tup [.str "record", .tup []], .tup [.str "truth", .int 1], .tup [.str "of", .str "A", .non], .tup [.str "rec", .tup [], .tup [.str "num", .int 1]], .tup [.str "op", .str "-", .int 0, .int 0]]
def oddF : List D := [.dct [.int 0] [.int 1], .tup [.tup []]]
/-- a text, or something that is none -/
def OddD (v : D) : Prop := (∃ x, v = .str x) ∨ ∀ st, oIsiO ([("Nothing" : Str)] : List Str) [v, .cst (.ty "str")] st = some (.bl false, st)
theorem odd_all : ∀ v ∈ oddA ++ oddB ++ oddC ++ oddE ++ oddF, OddD v := by
  intro v hv
  simp only [oddA, oddB, oddC, oddE, oddF, List.cons_append, List.nil_append, List.mem_cons, List.not_mem_nil, or_false] at hv
  repeat' rcases hv with rfl | hv
  all_goals first
    | exact .inl ⟨_, rfl⟩
    | exact .inr fun _ => rfl
    | (subst hv; first | exact .inl ⟨_, rfl⟩ | exact .inr fun _ => rfl)
theorem cat_lst {a b : List D} {st : Store} (h : a.length + b.length ≤ 1000) : oAdd (.lst a) (.lst b) st = some (.lst (a ++ b), st) := by
  show (if a.length + b.length ≤ sizeLine then some (D.lst (a ++ b), st) else none) = _
  have := sizeLine_big
  rw [if_pos (by omega)]
theorem big39 {st : Store} : oPow (.int 10) (.int 39) st = some (.int (10 ^ 39), st) := by
  show (if CPow 10 39 then _ else none) = _
  rw [if_pos (by unfold CPow; decide)]
  rfl
section
variable {st : Store} {b : Nat}
theorem g_law_odd (hB : Bag st b) : ∃ v st', OddD v ∧ G_law_odd [.ref b] st = some (v, st') ∧ BI st b st' := by
  have z : ∀ k : Nat, k ≤ 40 → k ≤ sizeLine := fun k h => fz k (by omega)
  have s1 : m_law_odd_1 [some (.ref b), none] st = some (.nx [some (.ref b), some (.lst oddA)], st) := by
    simp [-Int.reducePow, m_law_odd_1, z, big39]
    rfl
  have s2 : m_law_odd_2 [some (.ref b), some (.lst oddA)] st = some (.nx [some (.ref b), some (.lst (oddA ++ oddB))], st) := by
    have c := cat_lst (a := oddA) (b := oddB) (st := st) (by decide)
    unfold oddB at c
    simp [m_law_odd_2, z, c]
    rfl
  have s3 : m_law_odd_3 [some (.ref b), some (.lst (oddA ++ oddB))] st = some (.nx [some (.ref b), some (.lst (oddA ++ oddB ++ oddC))], st) := by
    have c := cat_lst (a := oddA ++ oddB) (b := oddC) (st := st) (by decide)
    unfold oddC at c
    simp [-List.append_assoc, m_law_odd_3, z, c]
    rfl
  have s4 : m_law_odd_4 [some (.ref b), some (.lst (oddA ++ oddB ++ oddC))] st = some (.nx [some (.ref b), some (.lst (oddA ++ oddB ++ oddC ++ oddE))], st) := by
    have c := cat_lst (a := oddA ++ oddB ++ oddC) (b := oddE) (st := st) (by decide)
    unfold oddE at c
    simp [-List.append_assoc, m_law_odd_4, z, c]
    rfl
  obtain ⟨v, st', m, e, hI⟩ := some_bi hB (ds := oddA ++ oddB ++ oddC ++ oddE ++ oddF) (by simp [oddA]) (by simp [oddA, oddB, oddC, oddE, oddF])
  refine ⟨v, st', odd_all v m, runF_rt ?_, hI⟩
  have d : xDisp [((xC (.int 0)), (xC (.int 1)))] [some (.ref b), some (.lst (oddA ++ oddB ++ oddC ++ oddE))] st = some (.ok (Ob.dct [.int 0] [.int 1]), st) := rfl
  have c := cat_lst (a := oddA ++ oddB ++ oddC ++ oddE) (b := oddF) (st := st) (by decide)
  unfold m_law_odd
  rw [show env0 2 [D.ref b] = [some (.ref b), none] from rfl, ev_sSeq s1, ev_sSeq s2, ev_sSeq s3, ev_sSeq s4]
  unfold oddF at c e
  simp [-List.append_assoc, m_law_odd_5, d, z, c, e]
/-- what is no text is wrong -/
theorem g_wrong {v : D} (h : ∀ st, oIsiO ([("Nothing" : Str)] : List Str) [v, .cst (.ty "str")] st = some (.bl false, st)) : G_law_heard [v] st = some (.tup [.str "wrong", .int 0], st) := by
  have wf : G_words_of [v] st = some (.exc ⟨"Wrong", [("place", .int 0)]⟩, st) := by
    refine runX_exc (e1 := env0 4 [v]) ?_
    unfold m_words_of
    refine ev_sSeq_exc ?_
    unfold m_words_of_1
    rw [ev_if_t (st1 := st)]
    · simp [b_words_of_1t, m_words_of_1t1]
    · unfold t_words_of_1
      rw [ev_xNot, ev_xTru, ev_xN, ev_aC]
      simp [env0, h]
  refine runF_rt ?_
  unfold m_law_heard m_law_heard_1
  refine ev_try_exc (x := ⟨"Wrong", [("place", .int 0)]⟩) (e1 := [some v, none]) (st1 := st) (t := ("Wrong", ([("place" : Str)] : List Str), [false, true, true])) ?_ ?_ rfl rfl ?_
  · simp [b_law_heard_1y, m_law_heard_1y1, env0, wf]
  · rfl
  · show xTup (aC (xC (.str "wrong")) (aC (xFld "place" ⟨"Wrong", [("place", .int 0)]⟩) aN)) (hEnv (some 1) [some v, none]) st = _
    have f1 : ∀ e, xFld "place" ⟨"Wrong", [("place", .int 0)]⟩ e st = some (.ok (.int 0), st) := fun e => rfl
    simp [f1, fz 2]
end
end K06
end FW

set_option maxHeartbeats 4000000
namespace FW
open PySem PySem.Spec L2
namespace K06
/-! ### the law -/
abbrev zE (b : Nat) (y2 y3 y4 y5 y6 y7 y8 y9 : Option D) : Env := [some (.ref 0), some (.ref b), y2, y3, y4, y5, y6, y7, y8, y9]
theorem ok_beg : ∀ x ∈ (["", "", " ", "# x\n"] : List Str), okN 10 x := by decide +kernel
theorem ok_gap : ∀ x ∈ (["", "", " ", "  ", "\n", " # a ( \n", "\n\n  ", "#\n"] : List Str), okN 10 x := by decide +kernel
theorem ok_end : ∀ x ∈ (["", "#", " # ~0 $", "\n"] : List Str), okN 10 x := by decide +kernel
section
variable {st : Store} {b : Nat}
/-- a choice among texts written out -/
theorem some_str (hB : Bag st b) (xs : List Str) {n : Nat} (h0 : 0 < xs.length) (h1 : xs.length < 1000) (h : ∀ x ∈ xs, okN n x) : ∃ x st', okN n x ∧ G_law_some [.ref b, .lst (xs.map D.str)] st = some (.str x, st') ∧ BI st b st' := by
  obtain ⟨v, st', m, e, i⟩ := some_bi hB (ds := xs.map D.str) (by rw [List.length_map]; exact h0) (by rw [List.length_map]; omega)
  obtain ⟨x, hx, rfl⟩ := str_of m
  exact ⟨x, st', h x hx, e, i⟩
theorem word_turn (hB : Bag st b) {n : Nat} {x : Str} (hx : okN n x) (hn : n ≤ 1000) (y2 y4 y5 y6 y7 y8 y9 : Option D) : ∃ x' z st', okN (n + 60) x' ∧ Bag st' b ∧ b_law_2b2b (zE b y2 (some (.str x)) y4 y5 y6 y7 y8 y9) st = some (.nx (zE b y2 (some (.str x')) y4 y5 y6 (some z) y8 y9), st') := by
  obtain ⟨g, st1, hg, e1, i1⟩ := some_str hB ["", "", " ", "  ", "\n", " # a ( \n", "\n\n  ", "#\n"] (n := 10) (by simp) (by simp) ok_gap
  obtain ⟨w, st2, hw, e2, b2⟩ := g_near_word (i1.bag hB)
  refine ⟨x ++ w ++ g, .str g, st2, (((hx.cat hw).cat hg).le (by omega)), b2, ?_⟩
  have s1 : m_law_2b2b1 (zE b y2 (some (.str x)) y4 y5 y6 y7 y8 y9) st = some (.nx (zE b y2 (some (.str x)) y4 y5 y6 (some (.str g)) y8 y9), st1) := by
    have e1' : G_law_some [.ref b, .lst [.str "", .str "", .str " ", .str "  ", .str "\n", .str " # a ( \n", .str "\n\n  ", .str "#\n"]] st = some (.str g, st1) := e1
    simp [m_law_2b2b1, zE, fz 8, e1']
  unfold b_law_2b2b
  rw [ev_sSeq s1]
  have c1 : ∀ S, oAdd (.str x) (.str w) S = some (.str (x ++ w), S) := fun S => add_ok hx hw (by omega)
  have c2 : ∀ S, oAdd (.str (x ++ w)) (.str g) S = some (.str (x ++ w ++ g), S) := fun S => add_ok (hx.cat hw) hg (by omega)
  simp [m_law_2b2b2, zE, e2, c1, c2]
theorem words_loop {it : Itm} (hit : ∀ S : Store, it.hold S) : ∀ (ks : List D) (st : Store) (n : Nat) (x : Str) (y2 y4 y5 y6 y7 y8 y9 : Option D), Bag st b → okN n x → n + 60 * ks.length ≤ 1000 →
    ∃ x' y4' y7' st', okN (n + 60 * ks.length) x' ∧ Bag st' b ∧ forL it (gN 4) b_law_2b2b ks (zE b y2 (some (.str x)) y4 y5 y6 y7 y8 y9) st = some (.nx (zE b y2 (some (.str x')) y4' y5 y6 y7' y8 y9), st')
  | [], st, n, x, y2, y4, y5, y6, y7, y8, y9, hB, hx, _ => ⟨x, y4, y7, st, hx.le (by omega), hB, ev_for_nil (hit st)⟩
  | k :: ks, st, n, x, y2, y4, y5, y6, y7, y8, y9, hB, hx, hn => by
    simp only [List.length_cons] at hn
    obtain ⟨x1, z, st1, h1, b1, e1⟩ := word_turn hB hx (by omega) y2 (some k) y5 y6 y7 y8 y9
    obtain ⟨x2, y4', y7', st2, h2, b2, e2⟩ := words_loop hit ks st1 (n + 60) x1 y2 (some k) y5 y6 (some z) y8 y9 b1 h1 (by omega)
    refine ⟨x2, y4', y7', st2, h2.le (by simp only [List.length_cons]; omega), b2, ?_⟩
    rw [ev_for_cons (hit st) (e1 := zE b y2 (some (.str x)) (some k) y5 y6 y7 y8 y9) (st1 := st) rfl e1]
    exact e2
/-- once more: heard, compared, changed -/
theorem again {t : List Nat} {ws : List Wt} {err : Option (Nat × Nat)} (h1 : ws.length ≤ 1000) (h2 : Wok ws) (h3 : ∀ p, err = some p → p.1 ≤ 4000 ∧ p.2 ≤ 4000)
    (h4 : ∀ st, ∃ g, G_law_heard [.str (tx t)] st = some (outD st.length err, st ++ g) ∧ (err = none → g[0]? = some (.lst (ws.map Wt.d))))
    (h5 : ∀ st, ∃ g, G_law_scanned [.str (tx t)] st = some (outD st.length err, st ++ g) ∧ (err = none → g[0]? = some (.lst (ws.map Wt.d))))
    {d : Nat} (hB : Bag st b) (hd : d < st.length) (hdue : err = none → st[d]? = some (.lst (ws.map Wt.d))) (y2 y4 y6 y7 y8 y9 : Option D) :
    ∃ d' y8' st', b_law_2b5b (zE b y2 (some (.str (tx t))) y4 (some (outD d err)) y6 y7 y8 y9) st = some (.nx (zE b y2 (some (.str (tx t))) y4 (some (outD d' err)) y6 y7 y8' y9), st') ∧ Bag st' b ∧ d' < st'.length ∧ (err = none → st'[d']? = some (.lst (ws.map Wt.d))) := by
  have hb := bag_len hB
  obtain ⟨g, e1, e2⟩ := h4 st
  have hB1 := hB.app g
  have at0 : err = none → (st ++ g)[st.length]? = some (.lst (ws.map Wt.d)) := fun h => by
    rw [List.getElem?_append_right (Nat.le_refl _), Nat.sub_self]
    exact e2 h
  have atd : err = none → (st ++ g)[d]? = some (.lst (ws.map Wt.d)) := fun h => by rw [List.getElem?_append_left hd]; exact hdue h
  have al := alike_out (a := st.length) (b := d) h2 h1 h3 at0 atd
  have s1 : m_law_2b5b1 (zE b y2 (some (.str (tx t))) y4 (some (outD d err)) y6 y7 y8 y9) st = some (.nx (zE b y2 (some (.str (tx t))) y4 (some (outD d err)) y6 y7 (some (outD st.length err)) y9), st ++ g) := by
    simp [m_law_2b5b1, zE, e1]
  have s2 : m_law_2b5b2 (zE b y2 (some (.str (tx t))) y4 (some (outD d err)) y6 y7 (some (outD st.length err)) y9) (st ++ g) = some (.nx (zE b y2 (some (.str (tx t))) y4 (some (outD d err)) y6 y7 (some (outD st.length err)) y9), st ++ g) := by
    unfold m_law_2b5b2
    rw [ev_if_f (st1 := st ++ g) (by simp [t_law_2b5b2, zE, al]), ev_sNil]
  cases err with
  | some p =>
    refine ⟨d, some (outD st.length (some p)), st ++ g, ?_, hB1, by rw [List.length_append]; omega, fun h => (by cases h)⟩
    unfold b_law_2b5b
    rw [ev_sSeq s1, ev_sSeq s2]
    unfold m_law_2b5b3
    have ne : decide (("text" : Str) = "told") = false := by decide +kernel
    rw [ev_if_f (st1 := st ++ g) (by simp [-decide_eq_false_iff_not, t_law_2b5b3, zE, outD, errD, ne]), ev_sNil]
  | none =>
    have ap := ev_app (y := .non) (at0 rfl) (by rw [List.length_map]; omega)
    have hlen : st.length < (st ++ g).length := (List.getElem?_eq_some_iff.mp (at0 rfl)).1
    obtain ⟨g2, e3, e4⟩ := h5 ((st ++ g).set st.length (.lst (ws.map Wt.d ++ [.non])))
    generalize hS : (st ++ g).set st.length (.lst (ws.map Wt.d ++ [.non])) = S2 at *
    have hB2 : Bag S2 b := by
      obtain ⟨o, eo, ho⟩ := hB1
      exact ⟨o, by rw [← hS, List.getElem?_set_ne (by omega)]; exact eo, ho⟩
    refine ⟨S2.length, some (outD st.length none), S2 ++ g2, ?_, hB2.app g2, ?_, fun _ => ?_⟩
    · unfold b_law_2b5b
      rw [ev_sSeq s1, ev_sSeq s2]
      unfold m_law_2b5b3
      rw [ev_if_t (st1 := st ++ g) (by simp [t_law_2b5b3, zE, outD])]
      unfold b_law_2b5b3t
      rw [ev_sSeq (e1 := zE b y2 (some (.str (tx t))) y4 (some (outD d none)) y6 y7 (some (outD st.length none)) y9) (st1 := S2) (by
        have ty := ty_lst (at0 rfl)
        simp [m_law_2b5b3t1, zE, outD, ty, ap])]
      simp [m_law_2b5b3t2, zE, e3]
    · rw [List.length_append]
      have : 0 < g2.length := (List.getElem?_eq_some_iff.mp (e4 rfl)).1
      omega
    · rw [List.getElem?_append_right (Nat.le_refl _), Nat.sub_self]
      exact e4 rfl
theorem turn (hB : Bag st b) (k : D) (y2 y3 y4 y5 y6 y7 y8 y9 : Option D) : ∃ z3 z4 z5 z6 z7 z8 st', Bag st' b ∧ b_law_2b (zE b (some k) y3 y4 y5 y6 y7 y8 y9) st = some (.nx (zE b (some k) z3 z4 z5 z6 z7 z8 y9), st') := by
  obtain ⟨x, st1, hx, e1, i1⟩ := some_str hB ["", "", " ", "# x\n"] (n := 10) (by simp) (by simp) ok_beg
  have b1 := i1.bag hB
  have s1 : m_law_2b1 (zE b (some k) y3 y4 y5 y6 y7 y8 y9) st = some (.nx (zE b (some k) (some (.str x)) y4 y5 y6 y7 y8 y9), st1) := by
    have e1' : G_law_some [.ref b, .lst [.str "", .str "", .str " ", .str "# x\n"]] st = some (.str x, st1) := e1
    simp [m_law_2b1, zE, fz 4, e1']
  obtain ⟨v, st2, m2, e2, i2⟩ := some_bi b1 (ds := [D.int 0, .int 3, .int 6, .int 10]) (by simp) (by simp)
  have b2 := i2.bag b1
  obtain ⟨n, hn, rfl⟩ : ∃ n : Nat, n ≤ 10 ∧ v = .int (n : Int) := by
    simp only [List.mem_cons, List.not_mem_nil, or_false] at m2
    rcases m2 with rfl | rfl | rfl | rfl
    · exact ⟨0, by omega, rfl⟩
    · exact ⟨3, by omega, rfl⟩
    · exact ⟨6, by omega, rfl⟩
    · exact ⟨10, by omega, rfl⟩
  obtain ⟨x', z4, z7, st3, hx', b3, e3⟩ := words_loop (b := b) (it := ⟨(List.range n).map fun (i : Nat) => D.int (i : Int), []⟩) (fun _ => hold_none) ((List.range n).map fun (i : Nat) => D.int (i : Int)) st2 10 x (some k) y4 y5 y6 y7 y8 y9 b2 hx (by rw [List.length_map, List.length_range]; omega)
  rw [List.length_map, List.length_range] at hx'
  have s2 : m_law_2b2 (zE b (some k) (some (.str x)) y4 y5 y6 y7 y8 y9) st1 = some (.nx (zE b (some k) (some (.str x')) z4 y5 y6 z7 y8 y9), st3) := by
    unfold m_law_2b2
    rw [ev_sFor, rng_nat (n := n) (st1 := st2) (by omega) (by simp [zE, fz 4, e2]), ev_bndS_ok]
    exact e3
  obtain ⟨w, st4, hw, e4, i4⟩ := some_str b3 ["", "#", " # ~0 $", "\n"] (n := 10) (by simp) (by simp) ok_end
  have b4 := i4.bag b3
  have hx4 := hx'.cat hw
  have s3 : m_law_2b3 (zE b (some k) (some (.str x')) z4 y5 y6 z7 y8 y9) st3 = some (.nx (zE b (some k) (some (.str (x' ++ w))) z4 y5 y6 z7 y8 y9), st4) := by
    have e4' : G_law_some [.ref b, .lst [.str "", .str "#", .str " # ~0 $", .str "\n"]] st3 = some (.str w, st4) := e4
    have c : oAdd (.str x') (.str w) st4 = some (.str (x' ++ w), st4) := add_ok hx' hw (by omega)
    simp [m_law_2b3, zE, fz 4, e4', c]
  generalize x' ++ w = text at *
  obtain ⟨t, rfl⟩ : ∃ t, text = tx t := ⟨_, (tx_of text).symm⟩
  have ht : t.length ≤ 1000 := by
    have := hx4.1
    rw [tx_len] at this
    omega
  obtain ⟨ws, err, h1, h2, h3, h4, h5⟩ := both ht (fun c hc => hx4.2 c (by simpa using hc))
  obtain ⟨g, e5, e6⟩ := h5 st4
  have b5 := b4.app g
  have s4 : m_law_2b4 (zE b (some k) (some (.str (tx t))) z4 y5 y6 z7 y8 y9) st4 = some (.nx (zE b (some k) (some (.str (tx t))) z4 (some (outD st4.length err)) y6 z7 y8 y9), st4 ++ g) := by
    simp [m_law_2b4, zE, e5]
  have at0 : err = none → (st4 ++ g)[st4.length]? = some (.lst (ws.map Wt.d)) := fun h => by
    rw [List.getElem?_append_right (Nat.le_refl _), Nat.sub_self]
    exact e6 h
  -- the due of a wrong text stands anywhere
  obtain ⟨d, hd, hsame, hdue⟩ : ∃ d, d < (st4 ++ g).length ∧ outD st4.length err = outD d err ∧ (err = none → (st4 ++ g)[d]? = some (.lst (ws.map Wt.d))) := by
    cases err with
    | none => exact ⟨st4.length, (List.getElem?_eq_some_iff.mp (at0 rfl)).1, rfl, at0⟩
    | some p => exact ⟨b, bag_len b5, rfl, fun h => (by cases h)⟩
  rw [hsame] at s4
  obtain ⟨d1, y8a, st6, e7, b6, hd1, due1⟩ := again h1 h2 h3 h4 h5 b5 hd hdue (some k) z4 (some (.int 0)) z7 y8 y9
  obtain ⟨d2, y8b, st7, e8, b7, hd2, due2⟩ := again h1 h2 h3 h4 h5 b6 hd1 due1 (some k) z4 (some (.int 1)) z7 y8a y9
  refine ⟨some (.str (tx t)), z4, some (outD d2 err), some (.int 1), z7, y8b, st7, b7, ?_⟩
  unfold b_law_2b
  rw [ev_sSeq s1, ev_sSeq s2, ev_sSeq s3, ev_sSeq s4]
  unfold m_law_2b5
  rw [ev_sFor, rng_nat (n := 2) (st1 := st4 ++ g) (by omega) (by simp), ev_bndS_ok]
  show forL _ _ _ [D.int 0, .int 1] _ _ = _
  rw [ev_for_cons hold_none (e1 := zE b (some k) (some (.str (tx t))) z4 (some (outD d err)) (some (.int 0)) z7 y8 y9) (st1 := st4 ++ g) rfl e7]
  rw [ev_for_cons hold_none (e1 := zE b (some k) (some (.str (tx t))) z4 (some (outD d1 err)) (some (.int 1)) z7 y8a y9) (st1 := st6) rfl e8]
  exact ev_for_nil hold_none
theorem turns {it : Itm} (hit : ∀ S : Store, it.hold S) : ∀ (ks : List D) (st : Store) (y2 y3 y4 y5 y6 y7 y8 y9 : Option D), Bag st b → ∃ z2 z3 z4 z5 z6 z7 z8 st', Bag st' b ∧ forL it (gN 2) b_law_2b ks (zE b y2 y3 y4 y5 y6 y7 y8 y9) st = some (.nx (zE b z2 z3 z4 z5 z6 z7 z8 y9), st')
  | [], st, y2, y3, y4, y5, y6, y7, y8, y9, hB => ⟨y2, y3, y4, y5, y6, y7, y8, st, hB, ev_for_nil (hit st)⟩
  | k :: ks, st, y2, y3, y4, y5, y6, y7, y8, y9, hB => by
    obtain ⟨z3, z4, z5, z6, z7, z8, st1, b1, e1⟩ := turn hB k y2 y3 y4 y5 y6 y7 y8 y9
    obtain ⟨w2, w3, w4, w5, w6, w7, w8, st2, b2, e2⟩ := turns hit ks st1 (some k) z3 z4 z5 z6 z7 z8 y9 b1
    refine ⟨w2, w3, w4, w5, w6, w7, w8, st2, b2, ?_⟩
    rw [ev_for_cons (hit st) (e1 := zE b (some k) y3 y4 y5 y6 y7 y8 y9) (st1 := st) rfl e1]
    exact e2
end
theorem w_law {ns : List Int} : ∃ st', F_law [.ref 0] [.flst (iD ns)] = some (.bl true, st') := by
  obtain ⟨o, e0, ho⟩ := g_law_bag (script := ns) (st := [.flst (iD ns)]) (n := 0) rfl
  have hB : Bag ([.flst (iD ns)] ++ [o]) 1 := ⟨o, rfl, ho⟩
  have s1 : m_law_1 (env0 10 [D.ref 0]) [.flst (iD ns)] = some (.nx (zE 1 none none none none none none none none), [.flst (iD ns)] ++ [o]) := by
    simp [m_law_1, env0, e0, zE]
  obtain ⟨z2, z3, z4, z5, z6, z7, z8, st1, b1, e1⟩ := turns (b := 1) (it := ⟨(List.range 8).map fun (i : Nat) => D.int (i : Int), []⟩) (fun _ => hold_none) ((List.range 8).map fun (i : Nat) => D.int (i : Int)) ([.flst (iD ns)] ++ [o]) none none none none none none none none hB
  have s2 : m_law_2 (zE 1 none none none none none none none none) ([.flst (iD ns)] ++ [o]) = some (.nx (zE 1 z2 z3 z4 z5 z6 z7 z8 none), st1) := by
    unfold m_law_2
    rw [ev_sFor, rng_nat (n := 8) (st1 := [.flst (iD ns)] ++ [o]) (by omega) (by simp), ev_bndS_ok]
    exact e1
  obtain ⟨v1, st2, o1, f1, i1⟩ := g_law_odd b1
  have b2 := i1.bag b1
  obtain ⟨v2, st3, o2, f2, i2⟩ := g_law_odd b2
  have b3 := i2.bag b2
  obtain ⟨v, st4, m, f3, i3⟩ := some_bi b3 (ds := [v1, v2, .oth "Nothing"]) (by simp) (by simp)
  have ov : OddD v := by
    simp only [List.mem_cons, List.not_mem_nil, or_false] at m
    rcases m with rfl | rfl | rfl
    · exact o1
    · exact o2
    · exact .inr fun _ => rfl
  have s3 : m_law_3 (zE 1 z2 z3 z4 z5 z6 z7 z8 none) st1 = some (.nx (zE 1 z2 z3 z4 z5 z6 z7 z8 (some v)), st4) := by
    have ot : ∀ e S, xOth "Nothing" e S = some (.ok (.oth "Nothing"), S) := fun e S => rfl
    simp [m_law_3, zE, f1, f2, ot, fz 3, f3]
  refine ⟨st4, runF_rt ?_⟩
  unfold m_law
  rw [ev_sSeq s1, ev_sSeq s2, ev_sSeq s3]
  unfold m_law_4
  rcases ov with ⟨x, rfl⟩ | hv
  · rw [ev_sRet, ev_xOrV_t (st1 := st4) (d := .bl true) (by simp [zE]; rfl) rfl]
    rfl
  · rw [ev_sRet, ev_xOrV_f (st1 := st4) (d := .bl false) (by simp [zE, hv]) rfl]
    simp [zE, g_wrong hv, fz 2, alike_wrong]
end K06
end FW

set_option maxHeartbeats 4000000
namespace FW
namespace K06
open PySem PySem.Spec PyProof.Rows L2
theorem facts {P : Program} {w : World} {K : PySem.W.Frag} {h : Heap} {mg : Str → Option Value} {f : Addr} (X : K.In h) (G : h.Ns mainGlobals mg) (hfa : mg ("law" : Str) = some (.ref f)) (c : He.SaysD hd_fa hd_fn K) (cc : chk K = true) :
    ∃ fd : FuncData, (∀ (s : Shared) (v : Value), BindsTo s fd ⟨[v], []⟩ [("script", v)]) ∧ ∀ base : Heap, K.In base → base.Ns mainGlobals mg → FnG P w K mg base CX0 9 f fd ["script"] (spF K 1 F_law) := by
  unfold chk at cc
  simp only [Bool.and_eq_true] at cc
  obtain ⟨ck_tbs, ck_ex_NoText, ck_ex_Wrong, ck_se_SwornError, ck_xt_law_heard, ck_oth⟩ := cc
  have ct : SaysTb hd_tbs K := ck_tbs
  obtain ⟨fd_is_integer, D_is_integer⟩ : ∃ fd, FnP K "is_integer" s_is_integer (He.ga K "is_integer") fd := c.def_ 0 (d := hd_dd "is_integer" 13) rfl
  obtain ⟨fd_is_number, D_is_number⟩ : ∃ fd, FnP K "is_number" s_is_number (He.ga K "is_number") fd := c.def_ 1 (d := hd_dd "is_number" 14) rfl
  obtain ⟨fd_run_end, D_run_end⟩ : ∃ fd, FnP K "run_end" s_run_end (He.ga K "run_end") fd := c.def_ 2 (d := hd_dd "run_end" 19) rfl
  obtain ⟨fd_name_end, D_name_end⟩ : ∃ fd, FnP K "name_end" s_name_end (He.ga K "name_end") fd := c.def_ 3 (d := hd_dd "name_end" 20) rfl
  obtain ⟨fd_digits_end, D_digits_end⟩ : ∃ fd, FnP K "digits_end" s_digits_end (He.ga K "digits_end") fd := c.def_ 4 (d := hd_dd "digits_end" 21) rfl
  obtain ⟨fd_number_end, D_number_end⟩ : ∃ fd, FnP K "number_end" s_number_end (He.ga K "number_end") fd := c.def_ 5 (d := hd_dd "number_end" 22) rfl
  obtain ⟨fd_variable_end, D_variable_end⟩ : ∃ fd, FnP K "variable_end" s_variable_end (He.ga K "variable_end") fd := c.def_ 6 (d := hd_dd "variable_end" 23) rfl
  obtain ⟨fd_word_end, D_word_end⟩ : ∃ fd, FnP K "word_end" s_word_end (He.ga K "word_end") fd := c.def_ 7 (d := hd_dd "word_end" 24) rfl
  obtain ⟨fd_line_words, D_line_words⟩ : ∃ fd, FnP K "line_words" s_line_words (He.ga K "line_words") fd := c.def_ 8 (d := hd_dd "line_words" 25) rfl
  obtain ⟨fd_words_of, D_words_of⟩ : ∃ fd, FnP K "words_of" s_words_of (He.ga K "words_of") fd := c.def_ 9 (d := hd_dd "words_of" 26) rfl
  obtain ⟨fd_law_bag, D_law_bag⟩ : ∃ fd, FnP K "_law_bag" s_law_bag (He.ga K "_law_bag") fd := c.def_ 10 (d := hd_dd "_law_bag" 28) rfl
  obtain ⟨fd_law_take, D_law_take⟩ : ∃ fd, FnP K "_law_take" s_law_take (He.ga K "_law_take") fd := c.def_ 11 (d := hd_dd "_law_take" 29) rfl
  obtain ⟨fd_law_some, D_law_some⟩ : ∃ fd, FnP K "_law_some" s_law_some (He.ga K "_law_some") fd := c.def_ 12 (d := hd_dd "_law_some" 30) rfl
  obtain ⟨fd_law_alike, D_law_alike⟩ : ∃ fd, FnP K "_law_alike" s_law_alike (He.ga K "_law_alike") fd := c.def_ 13 (d := hd_dd "_law_alike" 31) rfl
  obtain ⟨fd_law_barred, D_law_barred⟩ : ∃ fd, FnP K "_law_barred" s_law_barred (He.ga K "_law_barred") fd := c.def_ 14 (d := hd_dd "_law_barred" 32) rfl
  obtain ⟨fd_law_small_signs, D_law_small_signs⟩ : ∃ fd, FnP K "_law_small_signs" s_law_small_signs (He.ga K "_law_small_signs") fd := c.def_ 15 (d := hd_dd "_law_small_signs" 33) rfl
  obtain ⟨fd_law_great_signs, D_law_great_signs⟩ : ∃ fd, FnP K "_law_great_signs" s_law_great_signs (He.ga K "_law_great_signs") fd := c.def_ 16 (d := hd_dd "_law_great_signs" 34) rfl
  obtain ⟨fd_law_figures, D_law_figures⟩ : ∃ fd, FnP K "_law_figures" s_law_figures (He.ga K "_law_figures") fd := c.def_ 17 (d := hd_dd "_law_figures" 35) rfl
  obtain ⟨fd_law_odd, D_law_odd⟩ : ∃ fd, FnP K "_law_odd" s_law_odd (He.ga K "_law_odd") fd := c.def_ 18 (d := hd_dd "_law_odd" 36) rfl
  obtain ⟨fd_law_run_from, D_law_run_from⟩ : ∃ fd, FnP K "_law_run_from" s_law_run_from (He.ga K "_law_run_from") fd := c.def_ 19 (d := hd_dd "_law_run_from" 38) rfl
  obtain ⟨fd_law_word_at, D_law_word_at⟩ : ∃ fd, FnP K "_law_word_at" s_law_word_at (He.ga K "_law_word_at") fd := c.def_ 20 (d := hd_dd "_law_word_at" 39) rfl
  obtain ⟨fd_law_scanned, D_law_scanned⟩ : ∃ fd, FnP K "_law_scanned" s_law_scanned (He.ga K "_law_scanned") fd := c.def_ 21 (d := hd_dd "_law_scanned" 37) rfl
  obtain ⟨fd_law_heard, D_law_heard⟩ : ∃ fd, FnP K "_law_heard" s_law_heard (He.ga K "_law_heard") fd := c.def_ 22 (d := hd_dd "_law_heard" 40) rfl
  obtain ⟨fd_law_near_word, D_law_near_word⟩ : ∃ fd, FnP K "_law_near_word" s_law_near_word (He.ga K "_law_near_word") fd := c.def_ 23 (d := hd_dd "_law_near_word" 41) rfl
  obtain ⟨fd_law, D_law⟩ : ∃ fd, FnP K "law" s_law (He.ga K "law") fd := c.def_ 24 (d := hd_dd "law" 42) rfl
  have e := hfa.symm.trans (He.glo_ok X G (c.fact 24 (f := .glo "law") rfl))
  cases e
  have b := FunD.bindsA (ps := ["script"]) D_law fun _ _ _ _ _ _ us hl => match us, hl with | [_], _ => rfl
  have k_BARRED : KtT K mg "BARRED" ([("module" : Str), ("use" : Str), ("give" : Str), ("kind" : Str), ("let" : Str), ("rec" : Str), ("and" : Str), ("in" : Str), ("fn" : Str), ("if" : Str), ("then" : Str), ("else" : Str), ("match" : Str), ("with" : Str), ("end" : Str), ("new" : Str), ("get" : Str), ("put" : Str), ("tell" : Str), ("true" : Str), ("false" : Str)] : List Str) := ktT_of (He.glo_ok X G (c.fact 25 (f := .glo "BARRED") rfl)) (ct.at 0 rfl)
  have g_isinstance := He.free_ok X G (c.fact 30 (f := .free "isinstance") rfl)
  have g_bool := He.free_ok X G (c.fact 31 (f := .free "bool") rfl)
  have g_int := He.free_ok X G (c.fact 32 (f := .free "int") rfl)
  have g_len := He.free_ok X G (c.fact 33 (f := .free "len") rfl)
  have g_str := He.free_ok X G (c.fact 34 (f := .free "str") rfl)
  have g_enumerate := He.free_ok X G (c.fact 35 (f := .free "enumerate") rfl)
  have g_abs := He.free_ok X G (c.fact 36 (f := .free "abs") rfl)
  have g_repr := He.free_ok X G (c.fact 37 (f := .free "repr") rfl)
  have g_tuple := He.free_ok X G (c.fact 38 (f := .free "tuple") rfl)
  have g_range := He.free_ok X G (c.fact 39 (f := .free "range") rfl)
  have i_LOWEST := He.int_ok X G (c.fact 40 (f := .int "LOWEST" (-2147483648)) rfl)
  have i_HIGHEST := He.int_ok X G (c.fact 41 (f := .int "HIGHEST" (2147483647)) rfl)
  have i_LENGTH := He.int_ok X G (c.fact 42 (f := .int "LENGTH" (20)) rfl)
  have i_MOST_DIGITS := He.int_ok X G (c.fact 43 (f := .int "MOST_DIGITS" (9)) rfl)
  have s_BEHIND := He.str_ok X G (c.fact 44 (f := .str "BEHIND" "abcdefghijklmnopqrstuvwxyzABCDEFGHIJKLMNOPQRSTUVWXYZ0123456789_") rfl)
  have s_SMALL := He.str_ok X G (c.fact 45 (f := .str "SMALL" "abcdefghijklmnopqrstuvwxyz") rfl)
  have s_GREAT := He.str_ok X G (c.fact 46 (f := .str "GREAT" "ABCDEFGHIJKLMNOPQRSTUVWXYZ") rfl)
  have s_DIGITS := He.str_ok X G (c.fact 47 (f := .str "DIGITS" "0123456789") rfl)
  have s_ALONE := He.str_ok X G (c.fact 48 (f := .str "ALONE" "=<+*(){},.|:_") rfl)
  have gn_NoText := He.glo_ok X G (c.fact 26 (f := .glo "NoText") rfl)
  have gn_Wrong := He.glo_ok X G (c.fact 27 (f := .glo "Wrong") rfl)
  have gn_Nothing := He.glo_ok X G (c.fact 28 (f := .glo "Nothing") rfl)
  have gn_SwornError := He.glo_ok X G (c.fact 29 (f := .glo "SwornError") rfl)
  refine ⟨fd_law, fun s v => b s [v] rfl, fun base _ _ => ?_⟩
  have r_NoText : RaG P w K mg base "NoText" ([("line" : Str), ("column" : Str)] : List Str) := by
    obtain ⟨fd, D⟩ : ∃ fd, FunD K "__init__" "NoText.__init__" (defArgs i_NoText) (defBody i_NoText) (defScope i_NoText) [] [] (He.ma K (He.ga K "NoText") "__init__") fd := c.def_ 25 (d := di_NoText) rfl
    have S := seB_ok ck_se_SwornError
    have sc : FnScope ["self", "line", "column"] ["self", "line", "column"] (defScope i_NoText) := ⟨rfl, rfl, rfl, by decide +kernel, rfl, by decide +kernel, by decide +kernel⟩
    refine rag_of (fd := fd) (ps := ["self", "line", "column"]) (by simp) (by simp) gn_NoText ck_ex_NoText (D.ok (k := 0) sc (fun vs H Q E h => by rw [spI_len h] <;> rfl) fun cdv A outer s H vs Q E hr h => ⟨_, pss_cons (ps_expr (pe_seinit rfl gn_SwornError S (pa_cons (pe_var (i := 0) rfl (.inl rfl)) (pa_cons (pe_var (i := 1) rfl (.inl rfl)) (pa_cons (pe_var (i := 2) rfl (.inl rfl)) pa_nil))))) (pss_one (ps_asg (pe_tup (pa_cons (pe_var (i := 1) rfl (.inl rfl)) (pa_cons (pe_var (i := 2) rfl (.inl rfl)) pa_nil))) (pg_tup rfl (pgs_cons (pg_ost (pe_var (i := 0) rfl (.inl rfl))) (pgs_cons (pg_ost (pe_var (i := 0) rfl (.inl rfl))) pgs_nil))))), ini2 rfl h⟩) (D.bindsN fun _ _ _ _ _ _ us hl => match us, hl with | [_, _, _], _ => rfl)
  have r_Wrong : RaG P w K mg base "Wrong" ([("place" : Str)] : List Str) := by
    obtain ⟨fd, D⟩ : ∃ fd, FunD K "__init__" "Wrong.__init__" (defArgs i_Wrong) (defBody i_Wrong) (defScope i_Wrong) [] [] (He.ma K (He.ga K "Wrong") "__init__") fd := c.def_ 26 (d := di_Wrong) rfl
    have S := seB_ok ck_se_SwornError
    have sc : FnScope ["self", "place"] ["self", "place"] (defScope i_Wrong) := ⟨rfl, rfl, rfl, by decide +kernel, rfl, by decide +kernel, by decide +kernel⟩
    refine rag_of (fd := fd) (ps := ["self", "place"]) (by simp) (by simp) gn_Wrong ck_ex_Wrong (D.ok (k := 0) sc (fun vs H Q E h => by rw [spI_len h] <;> rfl) fun cdv A outer s H vs Q E hr h => ⟨_, pss_cons (ps_expr (pe_seinit rfl gn_SwornError S (pa_cons (pe_var (i := 0) rfl (.inl rfl)) (pa_cons (pe_var (i := 1) rfl (.inl rfl)) pa_nil)))) (pss_one (ps_asg (pe_var (i := 1) rfl (.inl rfl)) (pg_ost (pe_var (i := 0) rfl (.inl rfl))))), ini1 rfl h⟩) (D.bindsN fun _ _ _ _ _ _ us hl => match us, hl with | [_, _], _ => rfl)
  have kt_xt_law_heard : XtOk K mg xt_law_heard ([("NoText" : Str), ("Wrong" : Str), ("SwornError" : Str)] : List Str) := xtok_of ck_xt_law_heard (by intro x hx; simp only [List.mem_cons, List.not_mem_nil, or_false] at hx; rcases hx with rfl | rfl | rfl <;> first | exact gn_NoText | exact gn_Wrong | exact gn_SwornError) (by intro t ht; simp only [xt_law_heard, List.mem_cons, List.not_mem_nil, or_false] at ht; rcases ht with rfl | rfl <;> first | exact gn_NoText | exact gn_Wrong)
  have ot : OtT K ([("Nothing" : Str)] : List Str) := ott_of ck_oth
  have c_is_integer : ClG P w K mg base 1 "is_integer" 1 G_is_integer := cl_of D_is_integer (He.glo_ok X G (c.fact 0 (f := .glo "is_integer") rfl)) (ok_is_integer D_is_integer g_isinstance g_bool g_int) (fun _ _ _ _ _ _ us hl => match us, hl with | [_], _ => rfl)
  have c_is_number : ClG P w K mg base 2 "is_number" 1 G_is_number := cl_of D_is_number (He.glo_ok X G (c.fact 1 (f := .glo "is_number") rfl)) (ok_is_number D_is_number c_is_integer i_LOWEST i_HIGHEST) (fun _ _ _ _ _ _ us hl => match us, hl with | [_], _ => rfl)
  have c_run_end : ClG P w K mg base 1 "run_end" 3 G_run_end := cl_of D_run_end (He.glo_ok X G (c.fact 2 (f := .glo "run_end") rfl)) (ok_run_end D_run_end g_len) (fun _ _ _ _ _ _ us hl => match us, hl with | [_, _, _], _ => rfl)
  have c_name_end : ClGX P w K mg base 3 "name_end" 3 F_name_end := clX_of D_name_end (He.glo_ok X G (c.fact 3 (f := .glo "name_end") rfl)) (ok_name_end D_name_end c_run_end k_BARRED i_LENGTH s_BEHIND s_SMALL s_GREAT g_len r_NoText) (fun _ _ _ _ _ _ us hl => match us, hl with | [_, _, _], _ => rfl)
  have c_digits_end : ClGX P w K mg base 3 "digits_end" 4 F_digits_end := clX_of D_digits_end (He.glo_ok X G (c.fact 4 (f := .glo "digits_end") rfl)) (ok_digits_end D_digits_end c_run_end s_DIGITS r_NoText) (fun _ _ _ _ _ _ us hl => match us, hl with | [_, _, _, _], _ => rfl)
  have c_number_end : ClGX P w K mg base 4 "number_end" 3 F_number_end := clX_of D_number_end (He.glo_ok X G (c.fact 5 (f := .glo "number_end") rfl)) (ok_number_end D_number_end c_digits_end c_is_number i_MOST_DIGITS g_int r_NoText) (fun _ _ _ _ _ _ us hl => match us, hl with | [_, _, _], _ => rfl)
  have c_variable_end : ClGX P w K mg base 4 "variable_end" 3 F_variable_end := clX_of D_variable_end (He.glo_ok X G (c.fact 6 (f := .glo "variable_end") rfl)) (ok_variable_end D_variable_end c_digits_end i_MOST_DIGITS r_NoText) (fun _ _ _ _ _ _ us hl => match us, hl with | [_, _, _], _ => rfl)
  have c_word_end : ClGX P w K mg base 5 "word_end" 3 F_word_end := clX_of D_word_end (He.glo_ok X G (c.fact 7 (f := .glo "word_end") rfl)) (ok_word_end D_word_end c_name_end c_number_end c_variable_end s_SMALL s_GREAT s_DIGITS s_ALONE r_NoText) (fun _ _ _ _ _ _ us hl => match us, hl with | [_, _, _], _ => rfl)
  have c_line_words : ClGX P w K mg base 6 "line_words" 2 F_line_words := clX_of D_line_words (He.glo_ok X G (c.fact 8 (f := .glo "line_words") rfl)) (ok_line_words D_line_words c_word_end g_len) (fun _ _ _ _ _ _ us hl => match us, hl with | [_, _], _ => rfl)
  have c_words_of : ClGX P w K mg base 7 "words_of" 1 F_words_of := clX_of D_words_of (He.glo_ok X G (c.fact 9 (f := .glo "words_of") rfl)) (ok_words_of D_words_of c_line_words g_isinstance g_str g_enumerate r_Wrong ot gn_Nothing) (fun _ _ _ _ _ _ us hl => match us, hl with | [_], _ => rfl)
  have c_law_bag : ClG P w K mg base 1 "_law_bag" 1 G_law_bag := cl_of D_law_bag (He.glo_ok X G (c.fact 10 (f := .glo "_law_bag") rfl)) (ok_law_bag D_law_bag g_abs) (fun _ _ _ _ _ _ us hl => match us, hl with | [_], _ => rfl)
  have c_law_take : ClG P w K mg base 1 "_law_take" 2 G_law_take := cl_of D_law_take (He.glo_ok X G (c.fact 11 (f := .glo "_law_take") rfl)) (ok_law_take D_law_take g_int) (fun _ _ _ _ _ _ us hl => match us, hl with | [_, _], _ => rfl)
  have c_law_some : ClG P w K mg base 2 "_law_some" 2 G_law_some := cl_of D_law_some (He.glo_ok X G (c.fact 12 (f := .glo "_law_some") rfl)) (ok_law_some D_law_some c_law_take g_len) (fun _ _ _ _ _ _ us hl => match us, hl with | [_, _], _ => rfl)
  have c_law_alike : ClG P w K mg base 1 "_law_alike" 2 G_law_alike := cl_of D_law_alike (He.glo_ok X G (c.fact 13 (f := .glo "_law_alike") rfl)) (ok_law_alike D_law_alike g_repr) (fun _ _ _ _ _ _ us hl => match us, hl with | [_, _], _ => rfl)
  have c_law_barred : ClG P w K mg base 1 "_law_barred" 0 G_law_barred := cl_of D_law_barred (He.glo_ok X G (c.fact 14 (f := .glo "_law_barred") rfl)) (ok_law_barred D_law_barred) (fun _ _ _ _ _ _ us hl => match us, hl with | [], _ => rfl)
  have c_law_small_signs : ClG P w K mg base 1 "_law_small_signs" 0 G_law_small_signs := cl_of D_law_small_signs (He.glo_ok X G (c.fact 15 (f := .glo "_law_small_signs") rfl)) (ok_law_small_signs D_law_small_signs) (fun _ _ _ _ _ _ us hl => match us, hl with | [], _ => rfl)
  have c_law_great_signs : ClG P w K mg base 1 "_law_great_signs" 0 G_law_great_signs := cl_of D_law_great_signs (He.glo_ok X G (c.fact 16 (f := .glo "_law_great_signs") rfl)) (ok_law_great_signs D_law_great_signs) (fun _ _ _ _ _ _ us hl => match us, hl with | [], _ => rfl)
  have c_law_figures : ClG P w K mg base 1 "_law_figures" 0 G_law_figures := cl_of D_law_figures (He.glo_ok X G (c.fact 17 (f := .glo "_law_figures") rfl)) (ok_law_figures D_law_figures) (fun _ _ _ _ _ _ us hl => match us, hl with | [], _ => rfl)
  have c_law_odd : ClG P w K mg base 3 "_law_odd" 1 G_law_odd := cl_of D_law_odd (He.glo_ok X G (c.fact 18 (f := .glo "_law_odd") rfl)) (ok_law_odd D_law_odd c_law_some) (fun _ _ _ _ _ _ us hl => match us, hl with | [_], _ => rfl)
  have c_law_run_from : ClG P w K mg base 1 "_law_run_from" 3 G_law_run_from := cl_of D_law_run_from (He.glo_ok X G (c.fact 19 (f := .glo "_law_run_from") rfl)) (ok_law_run_from D_law_run_from g_len) (fun _ _ _ _ _ _ us hl => match us, hl with | [_, _, _], _ => rfl)
  have c_law_word_at : ClG P w K mg base 2 "_law_word_at" 2 G_law_word_at := cl_of D_law_word_at (He.glo_ok X G (c.fact 20 (f := .glo "_law_word_at") rfl)) (ok_law_word_at D_law_word_at c_law_small_signs c_law_great_signs c_law_figures c_law_run_from c_law_barred g_len g_tuple g_int) (fun _ _ _ _ _ _ us hl => match us, hl with | [_, _], _ => rfl)
  have c_law_scanned : ClG P w K mg base 3 "_law_scanned" 1 G_law_scanned := cl_of D_law_scanned (He.glo_ok X G (c.fact 21 (f := .glo "_law_scanned") rfl)) (ok_law_scanned D_law_scanned c_law_word_at g_len) (fun _ _ _ _ _ _ us hl => match us, hl with | [_], _ => rfl)
  have c_law_heard : ClG P w K mg base 8 "_law_heard" 1 G_law_heard := cl_of D_law_heard (He.glo_ok X G (c.fact 22 (f := .glo "_law_heard") rfl)) (ok_law_heard D_law_heard c_words_of kt_xt_law_heard) (fun _ _ _ _ _ _ us hl => match us, hl with | [_], _ => rfl)
  have c_law_near_word : ClG P w K mg base 3 "_law_near_word" 1 G_law_near_word := cl_of D_law_near_word (He.glo_ok X G (c.fact 23 (f := .glo "_law_near_word") rfl)) (ok_law_near_word D_law_near_word c_law_some c_law_barred c_law_take g_range) (fun _ _ _ _ _ _ us hl => match us, hl with | [_], _ => rfl)
  exact ok_law D_law c_law_bag c_law_some c_law_near_word c_law_scanned c_law_heard c_law_alike c_law_odd g_range g_isinstance g_str ot gn_Nothing

end K06
end FW
set_option maxHeartbeats 0
open PySem PySem.W PySem.Calls PyProof.Rows
theorem PySem.Challenge.cw_swornapart_k06_words_of_texts_holds : PySem.Challenge.rw_swornapart_k06_words_of_texts.Holds := by
  w_on; o_law
  refine HandSHeadRun.head_any (r := PySem.W.OpenLaw.row PySem.Challenge.rw_swornapart_k06_words_of_texts) (q := PySem.W.view (PySem.W.OpenLaw.row PySem.Challenge.rw_swornapart_k06_words_of_texts).prog [42]) (H := FW.K06.hd_hk) (ob := FW.K06.hd_ob) (M := 8000) (loose := FW.K06.hd_loose) (d := HandSHeadRun.topDef (PySem.W.OpenLaw.row PySem.Challenge.rw_swornapart_k06_words_of_texts).prog 42) (kwd := []) FW.K06.hd_ob_eq
    (by kernel_rfl) (fun s => by kernel_rfl) FW.K06.hd_run (by kernel_rfl) (by kernel_rfl) (by kernel_rfl) (by rfl) (by first | assumption | decide +kernel) (by decide +kernel) ⟨rfl, rfl, rfl, rfl, rfl, by decide +kernel⟩ ?hw ?hc
  case hw => w_witness2
  case hc =>
    refine FW.walkD (l := PySem.Challenge.rw_swornapart_k06_words_of_texts) (n := 63) (k := 9) (x := "script") (F := FW.K06.F_law) rfl (by decide) (by kernel_rfl) ⟨rfl, by decide, by decide⟩ (fun ns hl => FW.K06.w_law) ?F
    intro w mg hd_fa h Y G hmg0
    obtain ⟨K, KX, c, NK, ct⟩ := Y
    have hmg : mg ("law" : PySem.Str) = some (.ref hd_fa) := by
      have e : (HandSHeadRun.topDef (PySem.W.OpenLaw.row PySem.Challenge.rw_swornapart_k06_words_of_texts).prog 42).name = ("law" : PySem.Str) := by kernel_rfl
      rw [← e]
      exact hmg0
    obtain ⟨fd, hb, hF⟩ := FW.K06.facts (P := (PySem.Challenge.rw_swornapart_k06_words_of_texts).prog) (w := w) KX G hmg c ct
    exact ⟨K, fd, KX, NK, hb, hF⟩

