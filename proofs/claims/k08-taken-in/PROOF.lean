import PyProof.Rows.All
import Wide.All
import OpenK.AllK
import Wide.FinOn
import HandS.ForMost
import HandS.ExcCtx
import HandS.HotCalls
import HandS.CallSlots
import HandS.WordsExc
import HandS.IsInst
import HandS.Deep
import HandS.Flow
import HandS.TupAny
import HandS.TupMul
import KE.KDictKeyed
import KE.KeyNested
import HandS.Walk
import HandS.Conv
import HandS.Style
import HandS.ExcIs
import KE.DataMinMax
import HandS.More
import KE.SortData
import KE.DataFind
import HandS.StrMore
import KE.KDictPairs
import HandS.TupLen
import PySem.Challenge.RW_picturehall_k08_whole_taken_in
set_option Elab.async false
set_option linter.all false
set_option maxRecDepth 100000
set_option maxHeartbeats 1000000
namespace Py
open PySem PySem.Spec PyProof.Rows L2

/-- data of the functional semantics -/
inductive D where
  | non | bl (b : Bool) | int (i : Int) | str (x : Str) | tup (xs : List D) | lst (xs : List D) | fz (xs : List D) | ref (n : Nat) | adr (a : Addr) | ty (n : String)
  deriving Inhabited
/-- mutable objects -/
inductive O where
  | lst (xs : List D)
  | dS (kvs : List (Key × D))
  | dP (kvs : List (NestedKey × D))
  | ins (fs : List (Str × D))
abbrev Sto := List O
abbrev Fr := List (Option D)

/-- where the store's objects stand; what else may be written (a comprehension's list) -/
structure Mp where
  at_ : List Addr
  hid : List Addr
def TupAt (K : PySem.W.Frag) (H : Hp) (a : Addr) (xs : List V) : Prop :=
  H a = some (.tup xs) ∨
    ∃ (o : Obj) (its : Array Value) (n : Nat), K.lookup a = some o ∧ o.cls = .type "tuple" ∧ o.data = .seq its n ∧ its.size ≤ sizeLine ∧ Vals xs its.toList
theorem TupAt.sq {K : PySem.W.Frag} {H : Hp} {a : Addr} {xs : List V} (h : TupAt K H a xs) : SqT K H a xs := by
  rcases h with h | h
  · exact .inl (.inl h)
  · exact .inr h
theorem rd_sq {K : PySem.W.Frag} {H : Hp} {a : Addr} {xs : List V} (h : Rd H a (.lst xs)) : SqL K H a xs := .inl h

/-- a locked list, or one that is written -/
def FzAt (K : PySem.W.Frag) (H : Hp) (m : Mp) (a : Addr) (xs : List V) : Prop := (a ∉ m.at_ ∧ ∃ o, H a = some (.frz o (.lst xs))) ∨
  ∃ (o : Obj) (its : Array Value) (n : Nat), K.lookup a = some o ∧ o.cls = .type "list" ∧ o.dict = none ∧ o.data = .seq its n ∧ its.size ≤ sizeLine ∧ Vals xs its.toList
theorem FzAt.sq {K : PySem.W.Frag} {H : Hp} {m : Mp} {a : Addr} {xs : List V} (h : FzAt K H m a xs) : SqL K H a xs := by
  rcases h with ⟨_, h⟩ | h
  · exact .inl (.inr h)
  · exact .inr h
mutual
def Rep (K : PySem.W.Frag) (H : Hp) (m : Mp) : D → V → Prop
  | .non, v => v = .non
  | .bl b, v => v = .bl b
  | .int i, v => v = .int i
  | .str x, v => v = .str x
  | .tup ds, v => ∃ a vs, v = .ref a ∧ TupAt K H a vs ∧ RepL K H m ds vs
  | .lst ds, v => ∃ a vs, v = .ref a ∧ (a ∉ m.at_ ∧ a ∉ m.hid) ∧ H a = some (.lst vs) ∧ RepL K H m ds vs
  | .fz ds, v => ∃ a vs, v = .ref a ∧ FzAt K H m a vs ∧ RepL K H m ds vs
  | .ref n, v => ∃ a, v = .ref a ∧ m.at_[n]? = some a
  | .adr a, v => v = .ref a
  | .ty n, v => v = .ty n
def RepL (K : PySem.W.Frag) (H : Hp) (m : Mp) : List D → List V → Prop
  | [], vs => vs = []
  | d :: ds, vs => ∃ v r, vs = v :: r ∧ Rep K H m d v ∧ RepL K H m ds r
end

structure Grow (m : Mp) (H : Hp) (m' : Mp) (H' : Hp) : Prop where
  pre : ∃ ex, m'.at_ = m.at_ ++ ex ∧ ∀ a ∈ ex, H a = none
  hid : ∃ hx, m'.hid = hx ++ m.hid ∧ ∀ a ∈ hx, H a = none
  keep : ∀ a o, H a = some o → a ∉ m.at_ → H' a = some o
  tups : ∀ a xs, H a = some (.tup xs) → H' a = some (.tup xs)
  live : ∀ a, H a ≠ none → H' a ≠ none

theorem Grow.refl (m : Mp) (H : Hp) : Grow m H m H := ⟨⟨[], by simp, by simp⟩, ⟨[], by simp, by simp⟩, fun _ _ h _ => h, fun _ _ h => h, fun _ h => h⟩
theorem Grow.trans {m m1 m2 : Mp} {H H1 H2 : Hp} (a : Grow m H m1 H1) (b : Grow m1 H1 m2 H2) : Grow m H m2 H2 := by
  obtain ⟨e1, q1, f1⟩ := a.pre
  obtain ⟨e2, q2, f2⟩ := b.pre
  obtain ⟨x1, y1, z1⟩ := a.hid
  obtain ⟨x2, y2, z2⟩ := b.hid
  have back : ∀ x, H1 x = none → H x = none := fun x hx => by
    cases e : H x with
    | none => rfl
    | some o => exact absurd hx (a.live x (by rw [e]; simp))
  refine ⟨⟨e1 ++ e2, by rw [q2, q1]; simp, fun x hx => ?_⟩, ⟨x2 ++ x1, by rw [y2, y1]; simp, fun x hx => ?_⟩, fun x o h hn => ?_, fun x xs h => b.tups _ _ (a.tups _ _ h), fun x h => b.live _ (a.live _ h)⟩
  · rcases List.mem_append.1 hx with h | h
    · exact f1 x h
    · exact back x (f2 x h)
  · rcases List.mem_append.1 hx with h | h
    · exact back x (z2 x h)
    · exact z1 x h
  · refine b.keep x o (a.keep x o h hn) (fun hm => ?_)
    rw [q1] at hm
    rcases List.mem_append.1 hm with h' | h'
    · exact hn h'
    · rw [f1 x h'] at h; cases h
theorem Grow.new {m : Mp} {H : Hp} {p : Addr} {o : HO} (h : H p = none) : Grow m H m (upd H p o) :=
  ⟨⟨[], by simp, by simp⟩, ⟨[], by simp, by simp⟩, fun a u e _ => by rw [upd_ne (ne_of_none e h)]; exact e, fun a u e => by rw [upd_ne (ne_of_none e h)]; exact e,
    fun a e => by
      by_cases ha : a = p
      · subst ha; rw [upd_same]; simp
      · rw [upd_ne ha]; exact e⟩
theorem Grow.rd {m m' : Mp} {H H' : Hp} (g : Grow m H m' H') {a : Addr} {u : HO} (hn : a ∉ m.at_) (h : Rd H a u) : Rd H' a u := by
  rcases h with h | ⟨o, h⟩
  · exact .inl (g.keep _ _ h hn)
  · exact .inr ⟨o, g.keep _ _ h hn⟩
theorem Grow.notIn {m m' : Mp} {H H' : Hp} (g : Grow m H m' H') {a : Addr} {u : HO} (hn : a ∉ m.at_) (h : Rd H a u) : a ∉ m'.at_ := by
  obtain ⟨ex, q, f⟩ := g.pre
  intro hm
  rw [q] at hm
  rcases List.mem_append.1 hm with h' | h'
  · exact hn h'
  · have := f a h'
    rcases h with h | ⟨o, h⟩ <;> rw [this] at h <;> cases h
theorem Grow.notHid {m m' : Mp} {H H' : Hp} (g : Grow m H m' H') {a : Addr} {u : HO} (hn : a ∉ m.hid) (h : Rd H a u) : a ∉ m'.hid := by
  obtain ⟨ex, q, f⟩ := g.hid
  intro hm
  rw [q] at hm
  rcases List.mem_append.1 hm with h' | h'
  · have := f a h'
    rcases h with h | ⟨o, h⟩ <;> rw [this] at h <;> cases h
  · exact hn h'
theorem Grow.at {m m' : Mp} {H H' : Hp} (g : Grow m H m' H') {n : Nat} {a : Addr} (h : m.at_[n]? = some a) : m'.at_[n]? = some a := by
  obtain ⟨ex, q, f⟩ := g.pre
  rw [q, List.getElem?_append_left]
  · exact h
  · exact (List.getElem?_eq_some_iff.1 h).1
theorem TupAt.mono {K : PySem.W.Frag} {m m' : Mp} {H H' : Hp} (g : Grow m H m' H') {a : Addr} {xs : List V} (h : TupAt K H a xs) : TupAt K H' a xs := by
  rcases h with h | h
  · exact .inl (g.tups _ _ h)
  · exact .inr h
section
variable {K : PySem.W.Frag} {m m' : Mp} {H H' : Hp}
mutual
theorem Rep.mono (g : Grow m H m' H') : ∀ (d : D) (v : V), Rep K H m d v → Rep K H' m' d v
  | .non, v, h => by simpa only [Rep] using h
  | .bl b, v, h => by simpa only [Rep] using h
  | .int i, v, h => by simpa only [Rep] using h
  | .str x, v, h => by simpa only [Rep] using h
  | .tup ds, v, h => by
    simp only [Rep] at h ⊢
    obtain ⟨a, vs, e, t, r⟩ := h
    exact ⟨a, vs, e, t.mono g, RepL.mono g ds vs r⟩
  | .lst ds, v, h => by
    simp only [Rep] at h ⊢
    obtain ⟨a, vs, e, hn, t, r⟩ := h
    exact ⟨a, vs, e, ⟨g.notIn hn.1 (.of t), g.notHid hn.2 (.of t)⟩, g.keep _ _ t hn.1, RepL.mono g ds vs r⟩
  | .fz ds, v, h => by
    simp only [Rep] at h ⊢
    obtain ⟨a, vs, e, t, r⟩ := h
    refine ⟨a, vs, e, ?_, RepL.mono g ds vs r⟩
    rcases t with ⟨hn, o, t⟩ | t
    · exact .inl ⟨g.notIn hn (.of t), o, g.keep _ _ t hn⟩
    · exact .inr t
  | .ref n, v, h => by
    simp only [Rep] at h ⊢
    obtain ⟨a, e, t⟩ := h
    exact ⟨a, e, g.at t⟩
  | .adr a, v, h => by simpa only [Rep] using h
  | .ty n, v, h => by simpa only [Rep] using h
theorem RepL.mono (g : Grow m H m' H') : ∀ (ds : List D) (vs : List V), RepL K H m ds vs → RepL K H' m' ds vs
  | [], vs, h => by simpa only [RepL] using h
  | d :: ds, vs, h => by
    simp only [RepL] at h ⊢
    obtain ⟨v, r, e, h1, h2⟩ := h
    exact ⟨v, r, e, Rep.mono g d v h1, RepL.mono g ds r h2⟩
end
end
theorem RepL.length {K : PySem.W.Frag} {m : Mp} {H : Hp} : ∀ {ds : List D} {vs : List V}, RepL K H m ds vs → vs.length = ds.length
  | [], vs, h => by simp only [RepL] at h; rw [h]; rfl
  | d :: ds, vs, h => by
    simp only [RepL] at h
    obtain ⟨v, r, e, h1, h2⟩ := h
    rw [e, List.length_cons, List.length_cons, RepL.length h2]
theorem RepL.get {K : PySem.W.Frag} {m : Mp} {H : Hp} : ∀ {ds : List D} {vs : List V} {i : Nat} {d : D}, RepL K H m ds vs → ds[i]? = some d → ∃ v, vs[i]? = some v ∧ Rep K H m d v
  | [], vs, i, d, h, hi => by simp at hi
  | d' :: ds, vs, i, d, h, hi => by
    simp only [RepL] at h
    obtain ⟨v, r, e, h1, h2⟩ := h
    subst e
    cases i with
    | zero => simp at hi; subst hi; exact ⟨v, rfl, h1⟩
    | succ i => simp at hi; simpa using RepL.get h2 hi
theorem RepL.getV {K : PySem.W.Frag} {m : Mp} {H : Hp} : ∀ {ds : List D} {vs : List V} {i : Nat} {v : V}, RepL K H m ds vs → vs[i]? = some v → ∃ d, ds[i]? = some d ∧ Rep K H m d v
  | [], vs, i, d, h, hi => by simp only [RepL] at h; subst h; simp at hi
  | d' :: ds, vs, i, v, h, hi => by
    simp only [RepL] at h
    obtain ⟨v', r, e, h1, h2⟩ := h
    subst e
    cases i with
    | zero => simp at hi; subst hi; exact ⟨d', rfl, h1⟩
    | succ i => simp at hi; simpa using RepL.getV h2 hi
theorem RepL.append {K : PySem.W.Frag} {m : Mp} {H : Hp} : ∀ {ds es : List D} {vs us : List V}, RepL K H m ds vs → RepL K H m es us → RepL K H m (ds ++ es) (vs ++ us)
  | [], es, vs, us, h, k => by simp only [RepL] at h; subst h; exact k
  | d :: ds, es, vs, us, h, k => by
    simp only [RepL] at h
    obtain ⟨v, r, e, h1, h2⟩ := h
    subst e
    simp only [List.cons_append, RepL]
    exact ⟨v, r ++ us, rfl, h1, RepL.append h2 k⟩
theorem RepL.nil {K : PySem.W.Frag} {m : Mp} {H : Hp} : RepL K H m [] [] := by simp only [RepL]
theorem RepL.cons {K : PySem.W.Frag} {m : Mp} {H : Hp} {d : D} {ds : List D} {v : V} {vs : List V} (h : Rep K H m d v) (k : RepL K H m ds vs) : RepL K H m (d :: ds) (v :: vs) := by
  simp only [RepL]; exact ⟨v, vs, rfl, h, k⟩
theorem RepL.one {K : PySem.W.Frag} {m : Mp} {H : Hp} {d : D} {v : V} (h : Rep K H m d v) : RepL K H m [d] [v] := .cons h .nil
theorem RepL.uncons {K : PySem.W.Frag} {m : Mp} {H : Hp} {d : D} {ds : List D} {v : V} {vs : List V} (h : RepL K H m (d :: ds) (v :: vs)) : Rep K H m d v ∧ RepL K H m ds vs := by
  simp only [RepL] at h
  obtain ⟨v', r, e, h1, h2⟩ := h
  cases e; exact ⟨h1, h2⟩
theorem RepL.take {K : PySem.W.Frag} {m : Mp} {H : Hp} : ∀ {ds : List D} {vs : List V} (n : Nat), RepL K H m ds vs → RepL K H m (ds.take n) (vs.take n)
  | [], vs, n, h => by simp only [RepL] at h; subst h; simp [RepL]
  | d :: ds, vs, 0, h => by simp [RepL]
  | d :: ds, vs, n + 1, h => by
    simp only [RepL] at h
    obtain ⟨v, r, e, h1, h2⟩ := h
    subst e
    exact .cons h1 (RepL.take n h2)
theorem RepL.drop {K : PySem.W.Frag} {m : Mp} {H : Hp} : ∀ {ds : List D} {vs : List V} (n : Nat), RepL K H m ds vs → RepL K H m (ds.drop n) (vs.drop n)
  | [], vs, n, h => by simp only [RepL] at h; subst h; simp [RepL]
  | d :: ds, vs, 0, h => by simpa using h
  | d :: ds, vs, n + 1, h => by
    simp only [RepL] at h
    obtain ⟨v, r, e, h1, h2⟩ := h
    subst e
    exact RepL.drop n h2
theorem RepL.set {K : PySem.W.Frag} {m : Mp} {H : Hp} {d : D} {v : V} (hr : Rep K H m d v) : ∀ {ds : List D} {vs : List V} (n : Nat), RepL K H m ds vs → RepL K H m (ds.set n d) (vs.set n v)
  | [], vs, n, h => by simp only [RepL] at h; subst h; simp [RepL]
  | d' :: ds, vs, 0, h => by
    simp only [RepL] at h
    obtain ⟨v', r, e, h1, h2⟩ := h
    subst e
    exact .cons hr h2
  | d' :: ds, vs, n + 1, h => by
    simp only [RepL] at h
    obtain ⟨v', r, e, h1, h2⟩ := h
    subst e
    exact .cons h1 (RepL.set hr n h2)
theorem RepL.reverse {K : PySem.W.Frag} {m : Mp} {H : Hp} : ∀ {ds : List D} {vs : List V}, RepL K H m ds vs → RepL K H m ds.reverse vs.reverse
  | [], vs, h => by simp only [RepL] at h; subst h; simp [RepL]
  | d :: ds, vs, h => by
    simp only [RepL] at h
    obtain ⟨v, r, e, h1, h2⟩ := h
    subst e
    rw [List.reverse_cons, List.reverse_cons]
    exact RepL.append (RepL.reverse h2) (.one h1)
/-- flat images -/
theorem RepL.ints {K : PySem.W.Frag} {m : Mp} {H : Hp} : ∀ {ns : List Int} {vs : List V}, RepL K H m (ns.map D.int) vs → vs = ns.map V.int
  | [], vs, h => by simpa [RepL] using h
  | n :: ns, vs, h => by
    simp only [List.map_cons, RepL, Rep] at h
    obtain ⟨v, r, e, h1, h2⟩ := h
    rw [e, h1, RepL.ints h2]; rfl
theorem RepL.strs {K : PySem.W.Frag} {m : Mp} {H : Hp} : ∀ {ns : List Str} {vs : List V}, RepL K H m (ns.map D.str) vs → vs = ns.map V.str
  | [], vs, h => by simpa [RepL] using h
  | n :: ns, vs, h => by
    simp only [List.map_cons, RepL, Rep] at h
    obtain ⟨v, r, e, h1, h2⟩ := h
    rw [e, h1, RepL.strs h2]; rfl
theorem RepL.bls {K : PySem.W.Frag} {m : Mp} {H : Hp} : ∀ {ns : List Bool} {vs : List V}, RepL K H m (ns.map D.bl) vs → vs = ns.map V.bl
  | [], vs, h => by simpa [RepL] using h
  | n :: ns, vs, h => by
    simp only [List.map_cons, RepL, Rep] at h
    obtain ⟨v, r, e, h1, h2⟩ := h
    rw [e, h1, RepL.bls h2]; rfl
theorem RepL.ints' {K : PySem.W.Frag} {m : Mp} {H : Hp} : ∀ (ns : List Int), RepL K H m (ns.map D.int) (ns.map V.int)
  | [] => by simp [RepL]
  | n :: ns => .cons (by simp only [Rep]) (RepL.ints' ns)
theorem RepL.strs' {K : PySem.W.Frag} {m : Mp} {H : Hp} : ∀ (ns : List Str), RepL K H m (ns.map D.str) (ns.map V.str)
  | [] => by simp [RepL]
  | n :: ns => .cons (by simp only [Rep]) (RepL.strs' ns)
theorem RepL.bls' {K : PySem.W.Frag} {m : Mp} {H : Hp} : ∀ (ns : List Bool), RepL K H m (ns.map D.bl) (ns.map V.bl)
  | [] => by simp [RepL]
  | n :: ns => .cons (by simp only [Rep]) (RepL.bls' ns)

/-! ### stores -/
structure W3 where
  P : Program
  w : World
  K : PySem.W.Frag
mutual
def keyOf : D → Option NestedKey
  | .non => some .none
  | .bl b => some (.num (if b then 1 else 0))
  | .int i => some (.num i)
  | .str x => some (.text x)
  | .tup ds => (keysOf ds).map .tup
  | .lst _ => none
  | .fz _ => none
  | .ref _ => none
  | .adr _ => none
  | .ty _ => none
def keysOf : List D → Option (List NestedKey)
  | [] => some []
  | d :: ds => match keyOf d, keysOf ds with
    | some k, some ks => some (k :: ks)
    | _, _ => none
end
/-- the object of a dict whose keys are tuples (of any depth) -/
def DPo (G : W3) (a : Addr) (xs : List (NestedKey × Addr × Value)) : HO := .ext fun h => (a == sysModules) = false ∧ xs.length ≤ sizeLine ∧
  ∃ o es ep, h.get? a = some o ∧ o.ExactDict ∧ o.data = .dict es ep ∧ es.toList = xs.map (entryOfKey (nestedKind G.P G.w)) ∧ (xs.map (·.1)).Nodup
/-- a class of the module by its name -/
def clsAt (K : PySem.W.Frag) (c : Str) : Addr := match PySem.W.nsIn K mainGlobals c with | some (some (.ref C)) => C | _ => 0
def RepO (G : W3) (H : Hp) (m : Mp) (a : Addr) : O → Prop
  | .lst ds => ∃ vs, H a = some (.lst vs) ∧ RepL G.K H m ds vs
  | .dS kvs => ∃ vs, H a = some (.dK ((kvs.map (·.1)).zip vs)) ∧ RepL G.K H m (kvs.map (·.2)) vs
  | .dP kvs => ∃ (xs : List (NestedKey × Addr × Value)) (vs : List V), H a = some (DPo G a xs) ∧ xs.map (·.1) = kvs.map (·.1) ∧ Vals vs (xs.map (·.2.2)) ∧ RepL G.K H m (kvs.map (·.2)) vs ∧
      ∀ x ∈ xs, x.1.depth ≤ 8 ∧ ∃ d, keyOf d = some x.1 ∧ Rep G.K H m d (.ref x.2.1)
  | .ins fs => ∃ dx vs, H a = some (.ins (clsAt G.K "Hall") dx ((fs.map (·.1)).zip vs)) ∧ RepL G.K H m (fs.map (·.2)) vs
structure Sim (G : W3) (H : Hp) (m : Mp) (S : Sto) : Prop where
  len : m.at_.length = S.length
  nd : m.at_.Nodup
  hid : ∀ a ∈ m.hid, a ∉ m.at_ ∧ H a ≠ none
  at_ : ∀ (n : Nat) a o, m.at_[n]? = some a → S[n]? = some o → RepO G H m a o
structure SimF (K : PySem.W.Frag) (H : Hp) (m : Mp) (σ : L2.St) (fr : Fr) : Prop where
  len : σ.length = fr.length
  at_ : ∀ (i : Nat) d, fr[i]? = some (some d) → ∃ v, σ[i]? = some (some v) ∧ Rep K H m d v
theorem SimF.mono {K : PySem.W.Frag} {m m' : Mp} {H H' : Hp} {σ : L2.St} {fr : Fr} (g : Grow m H m' H') (h : SimF K H m σ fr) : SimF K H' m' σ fr :=
  ⟨h.len, fun i d e => by
    obtain ⟨v, e1, r⟩ := h.at_ i d e
    exact ⟨v, e1, r.mono g⟩⟩
theorem SimF.set {K : PySem.W.Frag} {m : Mp} {H : Hp} {σ : L2.St} {fr : Fr} {d : D} {v : V} (h : SimF K H m σ fr) (i : Nat) (r : Rep K H m d v) : SimF K H m (σ.set i (some v)) (fr.set i (some d)) := by
  refine ⟨by simp [h.len], fun j d' e => ?_⟩
  by_cases hj : j = i
  · subst hj
    rw [List.getElem?_set] at e ⊢
    simp only [if_true] at e ⊢
    split at e
    · rename_i hl
      cases e
      rw [if_pos (by rw [h.len]; exact hl)]
      exact ⟨v, rfl, r⟩
    · cases e
  · rw [List.getElem?_set_ne (Ne.symm hj)] at e ⊢
    exact h.at_ j d' e
theorem SimF.set' {K : PySem.W.Frag} {m : Mp} {H : Hp} {σ : L2.St} {fr : Fr} {o : Option V} (h : SimF K H m σ fr) (i : Nat) : SimF K H m (σ.set i o) (fr.set i none) := by
  refine ⟨by simp [h.len], fun j d' e => ?_⟩
  by_cases hj : j = i
  · subst hj
    rw [List.getElem?_set] at e
    simp only [if_true] at e
    split at e <;> cases e
  · rw [List.getElem?_set_ne (Ne.symm hj)] at e ⊢
    exact h.at_ j d' e
end Py
set_option maxRecDepth 100000
set_option maxHeartbeats 1000000
namespace Py
open PySem PySem.Spec PyProof.Rows L2

inductive Res (α : Type) where
  | ok (a : α) (S : Sto) | exc (c : Str) (S : Sto) | bad
def Res.bind {α β : Type} : Res α → (α → Sto → Res β) → Res β
  | .ok a S, k => k a S
  | .exc c S, _ => .exc c S
  | .bad, _ => .bad
@[simp] theorem Res.bind_ok {α β : Type} (a : α) (S : Sto) (k : α → Sto → Res β) : (Res.ok a S).bind k = k a S := id rfl
@[simp] theorem Res.bind_exc {α β : Type} (c : Str) (S : Sto) (k : α → Sto → Res β) : (Res.exc c S : Res α).bind k = .exc c S := id rfl
@[simp] theorem Res.bind_bad {α β : Type} (k : α → Sto → Res β) : (Res.bad : Res α).bind k = .bad := id rfl
abbrev ME := Fr → Sto → Res D
abbrev MT := Fr → Sto → Res Bool
abbrev MA := Fr → Sto → Res (List D)
inductive RS where
  | nx (fr : Fr) (S : Sto) | ret (d : D) (S : Sto) | brk (fr : Fr) (S : Sto) | cnt (fr : Fr) (S : Sto) | exc (c : Str) (S : Sto) | bad
abbrev MS := Fr → Sto → RS
def Res.then {α : Type} : Res α → (α → Sto → RS) → RS
  | .ok a S, k => k a S
  | .exc c S, _ => .exc c S
  | .bad, _ => .bad
@[simp] theorem Res.then_ok {α : Type} (a : α) (S : Sto) (k : α → Sto → RS) : (Res.ok a S).then k = k a S := id rfl
@[simp] theorem Res.then_exc {α : Type} (c : Str) (S : Sto) (k : α → Sto → RS) : (Res.exc c S : Res α).then k = .exc c S := id rfl
@[simp] theorem Res.then_bad {α : Type} (k : α → Sto → RS) : (Res.bad : Res α).then k = .bad := id rfl

structure At (G : W3) (H : Hp) (m : Mp) (σ : L2.St) (fr : Fr) (S : Sto) : Prop where
  f : SimF G.K H m σ fr
  s : Sim G H m S
/-- what a result asks of the post -/
def POk {α β : Type} (R : Hp → Mp → α → β → Prop) (G : W3) (mg : Str → Option Value) (E : WX) (σ : L2.St) (m : Mp) (H : Hp) (Q : β → Hp → Prop) : Res α → Prop
  | .ok a S' => ∀ m' v H', Grow m H m' H' → Sim G H' m' S' → R H' m' a v → Q v H'
  | .exc c S' => ∀ m' H' C, Grow m H m' H' → Sim G H' m' S' → mg c = some (.ref C) → E (.ref C) none σ H'
  | .bad => False
theorem POk.mono {α β : Type} {R : Hp → Mp → α → β → Prop} {G : W3} {mg : Str → Option Value} {E : WX} {σ : L2.St} {m m1 : Mp} {H H1 : Hp} {Q : β → Hp → Prop} {r : Res α} (g : Grow m H m1 H1) (h : POk R G mg E σ m H Q r) : POk R G mg E σ m1 H1 Q r := by
  cases r with
  | ok a S => exact fun m' v H' g' s' r' => h m' v H' (g.trans g') s' r'
  | exc c S => exact fun m' H' C g' s' e' => h m' H' C (g.trans g') s' e'
  | bad => exact h
theorem POk.imp {α β : Type} {R : Hp → Mp → α → β → Prop} {G : W3} {mg : Str → Option Value} {E : WX} {σ : L2.St} {m : Mp} {H : Hp} {Q Q' : β → Hp → Prop} {r : Res α} (h : POk R G mg E σ m H Q r) (hq : ∀ v H, Q v H → Q' v H) : POk R G mg E σ m H Q' r := by
  cases r with
  | ok a S => exact fun m' v H' g' s' r' => hq _ _ (h m' v H' g' s' r')
  | exc c S => exact h
  | bad => exact h
/-- sequencing -/
theorem POk.bind {α β α' β' : Type} {R : Hp → Mp → α → β → Prop} {R' : Hp → Mp → α' → β' → Prop} {G : W3} {mg : Str → Option Value} {E : WX} {σ : L2.St} {m : Mp} {H : Hp} {Q : β' → Hp → Prop} {Q1 : β → Hp → Prop} {r : Res α} {k : α → Sto → Res α'}
    (h : POk R' G mg E σ m H Q (r.bind k)) (hq : ∀ a S1 m1 v H1, r = .ok a S1 → Grow m H m1 H1 → Sim G H1 m1 S1 → R H1 m1 a v → POk R' G mg E σ m1 H1 Q (k a S1) → Q1 v H1) : POk R G mg E σ m H Q1 r := by
  cases r with
  | ok a S => exact fun m' v H' g' s' r' => hq a S m' v H' rfl g' s' r' (POk.mono (r := k a S) g' h)
  | exc c S => exact h
  | bad => exact h
abbrev RD (G : W3) : Hp → Mp → D → V → Prop := fun H m d v => Rep G.K H m d v
abbrev RDs (G : W3) : Hp → Mp → List D → List V → Prop := fun H m d v => RepL G.K H m d v
abbrev RB : Hp → Mp → Bool → Bool → Prop := fun _ _ b c => c = b
def tE (G : W3) (mg : Str → Option Value) (E : WX) (f : ME) : TE := fun σ H Q => ∃ m fr S, At G H m σ fr S ∧ POk (RD G) G mg E σ m H Q (f fr S)
def tT (G : W3) (mg : Str → Option Value) (E : WX) (f : MT) : TT := fun σ H Q => ∃ m fr S, At G H m σ fr S ∧ POk RB G mg E σ m H Q (f fr S)
def tA (G : W3) (mg : Str → Option Value) (E : WX) (f : MA) : TA := fun σ H Q => ∃ m fr S, At G H m σ fr S ∧ POk (RDs G) G mg E σ m H Q (f fr S)
def PSt (G : W3) (mg : Str → Option Value) (E : WX) (m : Mp) (H : Hp) (Dn : Ends) : RS → Prop
  | .nx fr S' => ∀ m' σ' H', Grow m H m' H' → At G H' m' σ' fr S' → Dn.nx σ' H'
  | .ret d S' => ∀ m' v H', Grow m H m' H' → Sim G H' m' S' → Rep G.K H' m' d v → Dn.rt v H'
  | .brk fr S' => ∀ m' σ' H', Grow m H m' H' → At G H' m' σ' fr S' → Dn.bk σ' H'
  | .cnt fr S' => ∀ m' σ' H', Grow m H m' H' → At G H' m' σ' fr S' → Dn.ct σ' H'
  | .exc c S' => ∀ m' σ' H' C, Grow m H m' H' → Sim G H' m' S' → mg c = some (.ref C) → E (.ref C) none σ' H'
  | .bad => False
theorem PSt.mono {G : W3} {mg : Str → Option Value} {E : WX} {m m1 : Mp} {H H1 : Hp} {Dn : Ends} {r : RS} (g : Grow m H m1 H1) (h : PSt G mg E m H Dn r) : PSt G mg E m1 H1 Dn r := by
  cases r with
  | nx fr S => exact fun m' σ' H' g' s' => h m' σ' H' (g.trans g') s'
  | ret d S => exact fun m' v H' g' s' r' => h m' v H' (g.trans g') s' r'
  | brk fr S => exact fun m' σ' H' g' s' => h m' σ' H' (g.trans g') s'
  | cnt fr S => exact fun m' σ' H' g' s' => h m' σ' H' (g.trans g') s'
  | exc c S => exact fun m' σ' H' C g' s' e' => h m' σ' H' C (g.trans g') s' e'
  | bad => exact h
theorem PSt.then {α β : Type} {R : Hp → Mp → α → β → Prop} {G : W3} {mg : Str → Option Value} {E : WX} {σ : L2.St} {m : Mp} {H : Hp} {Dn : Ends} {Q1 : β → Hp → Prop} {r : Res α} {k : α → Sto → RS}
    (h : PSt G mg E m H Dn (r.then k)) (hq : ∀ a S1 m1 v H1, r = .ok a S1 → Grow m H m1 H1 → Sim G H1 m1 S1 → R H1 m1 a v → PSt G mg E m1 H1 Dn (k a S1) → Q1 v H1) : POk R G mg E σ m H Q1 r := by
  cases r with
  | ok a S => exact fun m' v H' g' s' r' => hq a S m' v H' rfl g' s' r' (PSt.mono (r := k a S) g' h)
  | exc c S => exact fun m' H' C g' s' e' => h m' σ H' C g' s' e'
  | bad => exact h
def tS (G : W3) (mg : Str → Option Value) (E : WX) (f : MS) : TS := fun Dn σ H => ∃ m fr S, At G H m σ fr S ∧ PSt G mg E m H Dn (f fr S)

abbrev g3 (X : Cx) : W3 := ⟨X.prog, X.w, X.K⟩
def SE (X : Cx) (E : WX) (e : Expr) (f : ME) : Prop := PE X e (tE (g3 X) X.mg E f)
def ST (X : Cx) (E : WX) (e : Expr) (f : MT) : Prop := PT X e (tT (g3 X) X.mg E f)
def SA (X : Cx) (E : WX) (es : List Expr) (f : MA) : Prop := PA X es (tA (g3 X) X.mg E f)
def SS (X : Cx) (E : WX) (st : Stmt) (f : MS) : Prop := PS X st (tS (g3 X) X.mg E f)
def SB (X : Cx) (E : WX) (sts : List Stmt) (f : MS) : Prop := PSs X sts (tS (g3 X) X.mg E f)

theorem pe_imp {X : Cx} {e : Expr} {t t' : TE} (h : PE X e t) (w : ∀ σ H Q, t' σ H Q → t σ H Q) : PE X e t' := ⟨fun pins s σ H Q I q => h.run pins s σ H Q I (w σ H Q q)⟩
theorem pt_imp {X : Cx} {e : Expr} {t t' : TT} (h : PT X e t) (w : ∀ σ H Q, t' σ H Q → t σ H Q) : PT X e t' := ⟨fun pins s σ H Q I q => h.run pins s σ H Q I (w σ H Q q)⟩
theorem pw_imp {X : Cx} {e : Expr} {t t' : TT} (h : PW X e t) (w : ∀ σ H Q, t' σ H Q → t σ H Q) : PW X e t' := ⟨fun wh pins s σ H Q I q => h.run wh pins s σ H Q I (w σ H Q q)⟩
theorem pa_imp {X : Cx} {e : List Expr} {t t' : TA} (h : PA X e t) (w : ∀ σ H Q, t' σ H Q → t σ H Q) : PA X e t' := ⟨fun pos pins s σ H Q I q => h.run pos pins s σ H Q I (w σ H Q q)⟩
theorem ps_imp {X : Cx} {e : Stmt} {t t' : TS} (h : PS X e t) (w : ∀ Dn σ H, t' Dn σ H → t Dn σ H) : PS X e t' := ⟨fun pins s σ H Dn I q => h.run pins s σ H Dn I (w Dn σ H q)⟩
theorem pss_imp {X : Cx} {e : List Stmt} {t t' : TS} (h : PSs X e t) (w : ∀ Dn σ H, t' Dn σ H → t Dn σ H) : PSs X e t' := ⟨fun pins s σ H Dn I q => h.run pins s σ H Dn I (w Dn σ H q)⟩

/-! ### names, constants -/
def eVar (i : Nat) : ME := fun fr S => match fr[i]? with | some (some d) => .ok d S | _ => .bad
def eC (d : D) : ME := fun _ S => .ok d S
section
variable {X : Cx} {E : WX}
theorem se_var {x : Str} {pos : Pos} (i : Nat) (hN : X.N[i]? = some x := by rfl) (hv : Vis X.env.scope x := by first | exact Or.inl rfl | exact Or.inr (Or.inl rfl) | exact Or.inr (Or.inr rfl)) (hd : (x == ("__debug__" : Str)) = false := by decide)
    (hcd : (x == ("__classdict__" : Str)) = false := by decide) : SE X E (.Name x pos) (eVar i) := by
  refine pe_imp (pe_var hN hv hd hcd) fun σ H Q h => ?_
  obtain ⟨m, fr, S, at_, h⟩ := h
  unfold eVar at h
  split at h
  · rename_i d e
    obtain ⟨v, e1, r⟩ := at_.f.at_ i d e
    exact ⟨v, e1, h m v H (.refl _ _) at_.s r⟩
  · exact h.elim
theorem se_c {e : Expr} {v : V} {d : D} (h : PE X e (tC v)) (r : ∀ H m, Rep X.K H m d v) : SE X E e (eC d) := by
  refine pe_imp h fun σ H Q h => ?_
  obtain ⟨m, fr, S, at_, h⟩ := h
  exact h m v H (.refl _ _) at_.s (r _ _)
theorem se_int {i : Int} {j pos} : SE X E (.Constant (.int i) j pos) (eC (.int i)) := se_c pe_int fun _ _ => by simp only [Rep]
theorem se_bl {b : Bool} {j pos} : SE X E (.Constant (.bool b) j pos) (eC (.bl b)) := se_c pe_bl fun _ _ => by simp only [Rep]
theorem se_non {j pos} : SE X E (.Constant .none j pos) (eC .non) := se_c pe_non fun _ _ => by simp only [Rep]
theorem se_str {x : Str} {j pos} : SE X E (.Constant (.str x) j pos) (eC (.str x)) := se_c pe_str fun _ _ => by simp only [Rep]
/-- a module's constant -/
theorem se_gint {x : Str} {i : Int} {t : Tok} {pos : Pos} (hg : Gl X x) (hm : X.mg x = some (.int i t)) (hd : (x == ("__debug__" : Str)) = false := by decide) : SE X E (.Name x pos) (eC (.int i)) :=
  se_c (pe_glob hg hm (v := .int i) ⟨t, rfl⟩ hd) fun _ _ => by simp only [Rep]
theorem se_gstr {x : Str} {i : Str} {t : Tok} {pos : Pos} (hg : Gl X x) (hm : X.mg x = some (.str i t)) (hd : (x == ("__debug__" : Str)) = false := by decide) : SE X E (.Name x pos) (eC (.str i)) :=
  se_c (pe_glob hg hm (v := .str i) ⟨t, rfl⟩ hd) fun _ _ => by simp only [Rep]
theorem se_gref {x : Str} {a : Addr} {pos : Pos} (hg : Gl X x) (hm : X.mg x = some (.ref a)) (hd : (x == ("__debug__" : Str)) = false := by decide) : SE X E (.Name x pos) (eC (.adr a)) :=
  se_c (pe_glob hg hm (v := .ref a) rfl hd) fun _ _ => by simp only [Rep]
/-- a module's tuple that stands in the written part -/
theorem se_gtup {x : Str} {a : Addr} {d : D} {pos : Pos} (hg : Gl X x) (hm : X.mg x = some (.ref a)) (hr : ∀ H m, Rep X.K H m d (.ref a)) (hd : (x == ("__debug__" : Str)) = false := by decide) : SE X E (.Name x pos) (eC d) :=
  se_c (pe_glob hg hm (v := .ref a) rfl hd) hr
end

/-! ### operators by values -/
def e1 (op : D → Sto → Res D) (f : ME) : ME := fun fr S => (f fr S).bind op
def e2 (op : D → D → Sto → Res D) (f g : ME) : ME := fun fr S => (f fr S).bind fun x S => (g fr S).bind fun y S => op x y S
def Op1 (G : W3) (mg : Str → Option Value) (r : V → Hp → VK → Prop) (sem : D → Sto → Res D) : Prop :=
  ∀ (E : WX) (σ : L2.St) (m : Mp) (H : Hp) (S : Sto) (x : D) (v : V) (Q : VK), Sim G H m S → Rep G.K H m x v → POk (RD G) G mg E σ m H Q (sem x S) → r v H Q
def Op2 (G : W3) (mg : Str → Option Value) (r : R2) (sem : D → D → Sto → Res D) : Prop :=
  ∀ (E : WX) (σ : L2.St) (m : Mp) (H : Hp) (S : Sto) (x y : D) (v u : V) (Q : VK), Sim G H m S → Rep G.K H m x v → Rep G.K H m y u → POk (RD G) G mg E σ m H Q (sem x y S) → r v u H Q
def OpN (G : W3) (mg : Str → Option Value) (r : List V → Hp → VK → Prop) (sem : List D → Sto → Res D) : Prop :=
  ∀ (E : WX) (σ : L2.St) (m : Mp) (H : Hp) (S : Sto) (xs : List D) (vs : List V) (Q : VK), Sim G H m S → RepL G.K H m xs vs → POk (RD G) G mg E σ m H Q (sem xs S) → r vs H Q
section
variable {X : Cx} {E : WX} {a b : Expr} {f g : ME} {pos : Pos}
theorem un_of {op : D → Sto → Res D} {r : V → Hp → VK → Prop} (h1 : Op1 (g3 X) X.mg r op) {σ : L2.St} {H : Hp} {Q : VK} (h : tE (g3 X) X.mg E (e1 op f) σ H Q) : tUn r (tE (g3 X) X.mg E f) σ H Q := by
  obtain ⟨m, fr, S, at_, h⟩ := h
  refine ⟨m, fr, S, at_, POk.bind h fun x S1 m1 v H1 e g s r p => ?_⟩
  exact h1 E σ m1 H1 S1 x v Q s r p
theorem bin_of {op : D → D → Sto → Res D} {r : R2} (h2 : Op2 (g3 X) X.mg r op) {σ : L2.St} {H : Hp} {Q : VK} (h : tE (g3 X) X.mg E (e2 op f g) σ H Q) : tOp r (tE (g3 X) X.mg E f) (tE (g3 X) X.mg E g) σ H Q := by
  obtain ⟨m, fr, S, at_, h⟩ := h
  refine ⟨m, fr, S, at_, POk.bind h fun x S1 m1 v H1 e g s r p => ?_⟩
  refine ⟨m1, fr, S1, ⟨at_.f.mono g, s⟩, POk.bind p fun y S2 m2 u H2 e2 g2 s2 r2 p2 => ?_⟩
  exact h2 E σ m2 H2 S2 x y v u Q s2 (r.mono g2) r2 p2
theorem se_un {op : UnaryOp} {sem : D → Sto → Res D} {r : V → Hp → VK → Prop} (ho : UnR X (unaryOp op) r) (h1 : Op1 (g3 X) X.mg r sem) (ha : SE X E a f) : SE X E (.UnaryOp op a pos) (e1 sem f) :=
  pe_imp (pe_un ho ha) fun _ _ _ h => un_of h1 h
theorem se_op {op : Operator} {sem : D → D → Sto → Res D} {r : R2} (ho : OpR X (binaryOp op) r) (h2 : Op2 (g3 X) X.mg r sem) (ha : SE X E a f) (hb : SE X E b g) : SE X E (.BinOp a op b pos) (e2 sem f g) :=
  pe_imp (pe_op ho ha hb) fun _ _ _ h => bin_of h2 h
theorem se_cmp {op : CmpOp} {sem : D → D → Sto → Res D} {r : R2} (ho : OpR X (compareOp op) r) (h2 : Op2 (g3 X) X.mg r sem) (ha : SE X E a f) (hb : SE X E b g) (hm : behindInMarks op b = false) : SE X E (.Compare a [op] [b] pos) (e2 sem f g) :=
  pe_imp (pe_cmpR ho ha hb hm) fun _ _ _ h => bin_of h2 h
theorem se_ix {sem : D → D → Sto → Res D} {r : R2} (ho : IxR X r) (h2 : Op2 (g3 X) X.mg r sem) (ha : SE X E a f) (hb : SE X E b g) (hs : PlainIx b) : SE X E (.Subscript a b pos) (e2 sem f g) :=
  pe_imp (pe_ix ho ha hb hs) fun _ _ _ h => bin_of h2 h
/-! tests -/
def tVal (f : ME) : MT := fun fr S => (f fr S).bind fun d S => match d with | .bl b => .ok b S | _ => .bad
theorem val_of {σ : L2.St} {H : Hp} {Q : Bool → Hp → Prop} (h : tT (g3 X) X.mg E (tVal f) σ H Q) : tE (g3 X) X.mg E f σ H fun x H' => ∃ k, x = .bl k ∧ Q k H' := by
  obtain ⟨m, fr, S, at_, h⟩ := h
  refine ⟨m, fr, S, at_, POk.bind h fun x S1 m1 v H1 e g s r p => ?_⟩
  cases x with
  | bl b => simp only [Rep] at r; exact ⟨b, r, p m1 b H1 (.refl _ _) s rfl⟩
  | _ => exact p.elim
theorem st_val (h : SE X E a f) (he : ∀ whole, isTrue a X.env whole = (do let v ← whole; standAt a.pos; holding [v] (truthy v)) := by intro _; rfl) : ST X E a (tVal f) :=
  pt_imp (pt_val h he) fun _ _ _ h => val_of h
theorem st_cmp {op : CmpOp} {sem : D → D → Sto → Res D} {r : R2} (ho : OpR X (compareOp op) r) (h2 : Op2 (g3 X) X.mg r sem) (ha : SE X E a f) (hb : SE X E b g) (hm : behindInMarks op b = false) : ST X E (.Compare a [op] [b] pos) (tVal (e2 sem f g)) :=
  pt_imp (pt_cmpR ho ha hb hm) fun σ H Q h => by
    have h' := val_of h
    exact bin_of (Q := fun x H' => ∃ k, x = .bl k ∧ Q k H') h2 h'
def tAndM (f g : MT) : MT := fun fr S => (f fr S).bind fun b S => if b then g fr S else .ok false S
def tOrM (f g : MT) : MT := fun fr S => (f fr S).bind fun b S => if b then .ok true S else g fr S
def tNotM (f : MT) : MT := fun fr S => (f fr S).bind fun b S => .ok (!b) S
def SW (X : Cx) (E : WX) (e : Expr) (f : MT) : Prop := PW X e (tT (g3 X) X.mg E f)
variable {p q : MT} {rest : List Expr}
theorem sw_and1 (ha : ST X E a p) : SW X E (.BoolOp .And [a] pos) p := pw_and1 ha
theorem sw_or1 (ha : ST X E a p) : SW X E (.BoolOp .Or [a] pos) p := pw_or1 ha
theorem sw_and (ha : ST X E a p) (hb : SW X E (.BoolOp .And (b :: rest) pos) q) : SW X E (.BoolOp .And (a :: b :: rest) pos) (tAndM p q) :=
  pw_imp (pw_and ha hb) fun σ H Q h => by
    obtain ⟨m, fr, S, at_, h⟩ := h
    refine ⟨m, fr, S, at_, POk.bind h fun x S1 m1 v H1 e g s r p => ?_⟩
    subst r
    cases v with
    | true => exact ⟨m1, fr, S1, ⟨at_.f.mono g, s⟩, p⟩
    | false => exact p m1 _ H1 (.refl _ _) s rfl
theorem sw_or (ha : ST X E a p) (hb : SW X E (.BoolOp .Or (b :: rest) pos) q) : SW X E (.BoolOp .Or (a :: b :: rest) pos) (tOrM p q) :=
  pw_imp (pw_or ha hb) fun σ H Q h => by
    obtain ⟨m, fr, S, at_, h⟩ := h
    refine ⟨m, fr, S, at_, POk.bind h fun x S1 m1 v H1 e g s r p => ?_⟩
    subst r
    cases v with
    | false => exact ⟨m1, fr, S1, ⟨at_.f.mono g, s⟩, p⟩
    | true => exact p m1 _ H1 (.refl _ _) s rfl
theorem st_bool (h : SW X E a p) : ST X E a p := PW.pt h
theorem st_not (ha : ST X E a p) : ST X E (.UnaryOp .Not a pos) (tNotM p) :=
  pt_imp (pt_not ha) fun σ H Q h => by
    obtain ⟨m, fr, S, at_, h⟩ := h
    refine ⟨m, fr, S, at_, POk.bind h fun x S1 m1 v H1 e g s r p => ?_⟩
    subst r
    exact p m1 _ H1 (.refl _ _) s rfl
/-! .. as values -/
def eAnd (f g : ME) : ME := fun fr S => (f fr S).bind fun d S => match d with | .bl b => if b then g fr S else .ok (.bl false) S | _ => .bad
def eOr (f g : ME) : ME := fun fr S => (f fr S).bind fun d S => match d with | .bl b => if b then .ok (.bl true) S else g fr S | _ => .bad
def eNot (f : ME) : ME := fun fr S => (f fr S).bind fun d S => match d with | .bl b => .ok (.bl (!b)) S | _ => .bad
theorem se_one {op} (h : SE X E a f) : SE X E (.BoolOp op [a] pos) f := pe_one h
theorem se_and (ha : SE X E a f) (hb : SE X E (.BoolOp .And (b :: rest) pos) g) : SE X E (.BoolOp .And (a :: b :: rest) pos) (eAnd f g) :=
  pe_imp (pe_and ha hb) fun σ H Q h => by
    obtain ⟨m, fr, S, at_, h⟩ := h
    refine ⟨m, fr, S, at_, POk.bind h fun x S1 m1 v H1 e g s r p => ?_⟩
    cases x with
    | bl c =>
      simp only [Rep] at r
      refine ⟨c, r, ?_⟩
      cases c with
      | true => exact ⟨m1, fr, S1, ⟨at_.f.mono g, s⟩, p⟩
      | false => exact p m1 _ H1 (.refl _ _) s (by simp only [RD, Rep])
    | _ => exact p.elim
theorem se_or (ha : SE X E a f) (hb : SE X E (.BoolOp .Or (b :: rest) pos) g) : SE X E (.BoolOp .Or (a :: b :: rest) pos) (eOr f g) :=
  pe_imp (pe_or ha hb) fun σ H Q h => by
    obtain ⟨m, fr, S, at_, h⟩ := h
    refine ⟨m, fr, S, at_, POk.bind h fun x S1 m1 v H1 e g s r p => ?_⟩
    cases x with
    | bl c =>
      simp only [Rep] at r
      refine ⟨c, r, ?_⟩
      cases c with
      | false => exact ⟨m1, fr, S1, ⟨at_.f.mono g, s⟩, p⟩
      | true => exact p m1 _ H1 (.refl _ _) s (by simp only [RD, Rep])
    | _ => exact p.elim
theorem se_not (ha : SE X E a f) : SE X E (.UnaryOp .Not a pos) (eNot f) :=
  pe_imp (pe_not ha) fun σ H Q h => by
    obtain ⟨m, fr, S, at_, h⟩ := h
    refine ⟨m, fr, S, at_, POk.bind h fun x S1 m1 v H1 e g s r p => ?_⟩
    cases x with
    | bl c =>
      simp only [Rep] at r
      exact ⟨c, r, p m1 _ H1 (.refl _ _) s (by simp only [RD, Rep])⟩
    | _ => exact p.elim
/-- a op1 b op2 c -/
def eChain (o1 o2 : D → D → Sto → Res D) (f g h : ME) : ME := fun fr S => (f fr S).bind fun x S => (g fr S).bind fun y S => (o1 x y S).bind fun z S => match z with
  | .bl b => if b then (h fr S).bind fun w S => o2 y w S else .ok (.bl false) S
  | _ => .bad
theorem chain_of {o1 o2 : D → D → Sto → Res D} {r1 r2 : R2} {h : ME} (h1 : Op2 (g3 X) X.mg r1 o1) (h2 : Op2 (g3 X) X.mg r2 o2) {σ : L2.St} {H : Hp} {Q : VK} (q : tE (g3 X) X.mg E (eChain o1 o2 f g h) σ H Q) :
    tChain r1 r2 (tE (g3 X) X.mg E f) (tE (g3 X) X.mg E g) (tE (g3 X) X.mg E h) σ H Q := by
  obtain ⟨m, fr, S, at_, q⟩ := q
  refine ⟨m, fr, S, at_, POk.bind q fun x S1 m1 v H1 e g s r p => ?_⟩
  refine ⟨m1, fr, S1, ⟨at_.f.mono g, s⟩, POk.bind p fun y S2 m2 u H2 e2 g2 s2 rr2 p2 => ?_⟩
  refine h1 E σ m2 H2 S2 x y v u _ s2 (r.mono g2) rr2 (POk.bind p2 fun z S3 m3 w H3 e3 g3' s3 r3 p3 => ?_)
  cases z with
  | bl b =>
    simp only [RD, Rep] at r3
    refine ⟨b, r3, ?_⟩
    cases b with
    | true =>
      refine ⟨m3, fr, S3, ⟨at_.f.mono (g.trans (g2.trans g3')), s3⟩, POk.bind p3 fun w' S4 m4 u' H4 e4 g4 s4 r4 p4 => ?_⟩
      exact h2 E σ m4 H4 S4 y w' u u' Q s4 (rr2.mono (g3'.trans g4)) r4 p4
    | false => exact p3 m3 _ H3 (.refl _ _) s3 (by simp only [RD, Rep])
  | _ => exact p3.elim
theorem se_chain {op op' : CmpOp} {c : Expr} {h : ME} {o1 o2 : D → D → Sto → Res D} {r1 r2 : R2} (ho : OpR X (compareOp op) r1) (ho' : OpR X (compareOp op') r2) (h1 : Op2 (g3 X) X.mg r1 o1) (h2 : Op2 (g3 X) X.mg r2 o2)
    (ha : SE X E a f) (hb : SE X E b g) (hc : SE X E c h) (hm : lastMarks [op, op'] [b, c] = false := by with_unfolding_all rfl) : SE X E (.Compare a [op, op'] [b, c] pos) (eChain o1 o2 f g h) :=
  pe_imp (pe_chain ho ho' ha hb hc hm) fun _ _ _ q => chain_of h1 h2 q
theorem st_chain {op op' : CmpOp} {c : Expr} {h : ME} {o1 o2 : D → D → Sto → Res D} {r1 r2 : R2} (ho : OpR X (compareOp op) r1) (ho' : OpR X (compareOp op') r2) (h1 : Op2 (g3 X) X.mg r1 o1) (h2 : Op2 (g3 X) X.mg r2 o2)
    (ha : SE X E a f) (hb : SE X E b g) (hc : SE X E c h) (hm : lastMarks [op, op'] [b, c] = false := by with_unfolding_all rfl) : ST X E (.Compare a [op, op'] [b, c] pos) (tVal (eChain o1 o2 f g h)) :=
  pt_imp (pt_chain ho ho' ha hb hc hm) fun σ H Q q => by
    have q' := val_of q
    exact chain_of (Q := fun x H' => ∃ k, x = .bl k ∧ Q k H') h1 h2 q'
end
/-! ### argument lists, displays, calls -/
def aNil : MA := fun _ S => .ok [] S
def aCons (f : ME) (g : MA) : MA := fun fr S => (f fr S).bind fun x S => (g fr S).bind fun xs S => .ok (x :: xs) S
/-- sizes -/
abbrev sz : Nat := 1000000
theorem sz_ok {n : Nat} (h : n ≤ sz) : n ≤ sizeLine := by rw [sizeLine_eq]; exact Nat.le_trans h (by decide)
theorem sz_lt {n : Nat} (h : n < sz) : n < sizeLine := by rw [sizeLine_eq]; exact Nat.lt_of_lt_of_le h (by decide)
def eTup (f : MA) : ME := fun fr S => (f fr S).bind fun xs S => if xs.length ≤ sz then .ok (.tup xs) S else .bad
def eLst (f : MA) : ME := fun fr S => (f fr S).bind fun xs S => if xs.length ≤ sz then .ok (.lst xs) S else .bad
/-- a list that will be changed: it goes to the store -/
def eNewL (f : MA) : ME := fun fr S => (f fr S).bind fun xs S => if xs.length ≤ sz then .ok (.ref S.length) (S ++ [.lst xs]) else .bad
def eCall (F : List D → Sto → Res D) (f : MA) : ME := fun fr S => (f fr S).bind F
section
variable {X : Cx} {E : WX} {e : Expr} {es : List Expr} {f : ME} {g : MA} {pos : Pos}
theorem sa_nil : SA X E [] aNil := pa_imp pa_nil fun σ H Q h => by
  obtain ⟨m, fr, S, at_, h⟩ := h
  exact h m _ H (.refl _ _) at_.s (by simp only [RDs, RepL])
theorem sa_cons (ha : SE X E e f) (hr : SA X E es g) (hs : starEach (e :: es) X.env = (false, eval e X.env) :: starEach es X.env := by rfl) : SA X E (e :: es) (aCons f g) :=
  pa_imp (pa_cons ha hr hs) fun σ H Q h => by
    obtain ⟨m, fr, S, at_, h⟩ := h
    refine ⟨m, fr, S, at_, POk.bind h fun x S1 m1 v H1 e g s r p => ?_⟩
    refine ⟨m1, fr, S1, ⟨at_.f.mono g, s⟩, POk.bind p fun y S2 m2 u H2 e2 g2 s2 r2 p2 => ?_⟩
    exact p2 m2 _ H2 (.refl _ _) s2 (.cons (r.mono g2) r2)
theorem Rep.newTup {K : PySem.W.Frag} {H : Hp} {m : Mp} {p : Addr} {xs : List D} {vs : List V} (hp : H p = none) (r : RepL K H m xs vs) : Rep K (upd H p (.tup vs)) m (.tup xs) (.ref p) := by
  simp only [Rep]
  exact ⟨p, vs, rfl, .inl upd_same, RepL.mono (.new hp) _ _ r⟩
theorem RepO.live {G : W3} {H : Hp} {m : Mp} {a : Addr} {o : O} (r : RepO G H m a o) : H a ≠ none := by
  cases o with
  | lst ds => obtain ⟨vs, e, _⟩ := r; rw [e]; simp
  | dS ds => obtain ⟨vs, e, _⟩ := r; rw [e]; simp
  | dP ds => obtain ⟨xs, vs, e, _⟩ := r; rw [e]; simp
  | ins ds => obtain ⟨dx, vs, e, _⟩ := r; rw [e]; simp
theorem Sim.mem {G : W3} {H : Hp} {m : Mp} {S : Sto} (s : Sim G H m S) {p : Addr} (hm : p ∈ m.at_) : ∃ (n : Nat) (o : O), m.at_[n]? = some p ∧ S[n]? = some o ∧ RepO G H m p o := by
  obtain ⟨n, hn, e⟩ := List.mem_iff_getElem.1 hm
  have hS : n < S.length := s.len ▸ hn
  have h1 : m.at_[n]? = some p := by rw [List.getElem?_eq_getElem hn, e]
  exact ⟨n, S[n], h1, List.getElem?_eq_getElem hS, s.at_ n p S[n] h1 (List.getElem?_eq_getElem hS)⟩
theorem Sim.notm {G : W3} {H : Hp} {m : Mp} {S : Sto} (s : Sim G H m S) {p : Addr} (hp : H p = none) : p ∉ m.at_ ∧ p ∉ m.hid := by
  refine ⟨fun hm => ?_, fun hm => (s.hid p hm).2 hp⟩
  obtain ⟨n, o, _, _, r⟩ := s.mem hm
  exact r.live hp
theorem Rep.newLst {G : W3} {H : Hp} {m : Mp} {S : Sto} {p : Addr} {xs : List D} {vs : List V} (s : Sim G H m S) (hp : H p = none) (r : RepL G.K H m xs vs) : Rep G.K (upd H p (.lst vs)) m (.lst xs) (.ref p) := by
  simp only [Rep]
  exact ⟨p, vs, rfl, s.notm hp, upd_same, RepL.mono (.new hp) _ _ r⟩
/-- the store behind a growing of the heap that leaves the store's objects -/
theorem RepO.mono {G : W3} {H H' : Hp} {m m' : Mp} {a : Addr} {o : O} (g : Grow m H m' H') (hk : ∀ u, H a = some u → H' a = some u) (r : RepO G H m a o) : RepO G H' m' a o := by
  cases o with
  | lst ds => obtain ⟨vs, e, r⟩ := r; exact ⟨vs, hk _ e, r.mono g⟩
  | dS ds => obtain ⟨vs, e, r⟩ := r; exact ⟨vs, hk _ e, r.mono g⟩
  | dP ds =>
    obtain ⟨xs, vs, e, k1, k2, r, k3⟩ := r
    refine ⟨xs, vs, hk _ e, k1, k2, r.mono g, fun x hx => ?_⟩
    obtain ⟨hd, d, h1, h2⟩ := k3 x hx
    exact ⟨hd, d, h1, h2.mono g⟩
  | ins ds => obtain ⟨dx, vs, e, r⟩ := r; exact ⟨dx, vs, hk _ e, r.mono g⟩
theorem Sim.new {G : W3} {H : Hp} {m : Mp} {S : Sto} (s : Sim G H m S) {p : Addr} {o : HO} (hp : H p = none) : Sim G (upd H p o) m S :=
  ⟨s.len, s.nd, fun a ha => ⟨(s.hid a ha).1, (Grow.new (m := m) hp).live a (s.hid a ha).2⟩, fun n a o' h1 h2 => RepO.mono (.new hp) (fun u e => by rw [upd_ne (ne_of_none e hp)]; exact e) (s.at_ n a o' h1 h2)⟩
/-- a new object goes to the store -/
abbrev Mp.add (m : Mp) (p : Addr) : Mp := ⟨m.at_ ++ [p], m.hid⟩
theorem Grow.alloc {m : Mp} {H : Hp} {p : Addr} {o : HO} (h : H p = none) : Grow m H (m.add p) (upd H p o) :=
  ⟨⟨[p], rfl, fun a ha => by rw [List.mem_singleton] at ha; rw [ha]; exact h⟩, ⟨[], by simp, by simp⟩, (Grow.new (m := m) h).keep, (Grow.new (m := m) h).tups, (Grow.new (m := m) h).live⟩
theorem Sim.alloc {G : W3} {H : Hp} {m : Mp} {S : Sto} (s : Sim G H m S) {p : Addr} {u : HO} {o : O} (hp : H p = none) (hr : RepO G (upd H p u) (m.add p) p o) : Sim G (upd H p u) (m.add p) (S ++ [o]) := by
  refine ⟨by simp [s.len], ?_, fun a ha => ⟨fun hm => ?_, (Grow.new (m := m) hp).live a (s.hid a ha).2⟩, fun n a o' h1 h2 => ?_⟩
  · show (m.at_ ++ [p]).Nodup
    rw [List.nodup_append]
    exact ⟨s.nd, by simp, fun a ha b hb => by rw [List.mem_singleton] at hb; subst hb; exact fun e => (s.notm hp).1 (e ▸ ha)⟩
  · rcases List.mem_append.1 hm with h | h
    · exact (s.hid a ha).1 h
    · rw [List.mem_singleton] at h; subst h; exact (s.hid a ha).2 hp
  · by_cases hn : n < m.at_.length
    · rw [show (m.add p).at_ = m.at_ ++ [p] from rfl, List.getElem?_append_left hn] at h1
      rw [List.getElem?_append_left (s.len ▸ hn)] at h2
      exact RepO.mono (.alloc hp) (fun u e => by rw [upd_ne (ne_of_none e hp)]; exact e) (s.at_ n a o' h1 h2)
    · rw [show (m.add p).at_ = m.at_ ++ [p] from rfl, List.getElem?_append_right (by omega)] at h1
      have hn' : n = m.at_.length := by
        have := (List.getElem?_eq_some_iff.1 h1).1
        simp at this; omega
      subst hn'
      rw [List.getElem?_append_right (by rw [s.len]; omega)] at h2
      simp at h1
      rw [show m.at_.length - S.length = 0 by rw [s.len]; omega] at h2
      simp at h2
      subst h1; subst h2
      exact hr
theorem se_tup {x1} (h : SA X E es g) : SE X E (.Tuple es x1 pos) (eTup g) :=
  pe_imp (pe_tup h) fun σ H Q h => by
    obtain ⟨m, fr, S, at_, h⟩ := h
    refine ⟨m, fr, S, at_, POk.bind h fun x S1 m1 v H1 e g s r p => ?_⟩
    split at p
    · rename_i hl
      exact ⟨by rw [r.length]; exact sz_ok hl, fun q hq => p m1 _ _ (.new hq) (s.new hq) (.newTup hq r)⟩
    · exact p.elim
theorem se_lst (h : SA X E es g) : SE X E (.List es pos) (eLst g) :=
  pe_imp (pe_lst h) fun σ H Q h => by
    obtain ⟨m, fr, S, at_, h⟩ := h
    refine ⟨m, fr, S, at_, POk.bind h fun x S1 m1 v H1 e g s r p => ?_⟩
    split at p
    · rename_i hl
      exact ⟨by rw [r.length]; exact sz_ok hl, fun q hq => p m1 _ _ (.new hq) (s.new hq) (.newLst s hq r)⟩
    · exact p.elim
theorem se_newL (h : SA X E es g) : SE X E (.List es pos) (eNewL g) :=
  pe_imp (pe_lst h) fun σ H Q h => by
    obtain ⟨m, fr, S, at_, h⟩ := h
    refine ⟨m, fr, S, at_, POk.bind h fun x S1 m1 v H1 e g s r p => ?_⟩
    split at p
    · rename_i hl
      refine ⟨by rw [r.length]; exact sz_ok hl, fun q hq => p (m1.add q) _ _ (.alloc hq) (s.alloc hq ⟨v, upd_same, r.mono (.alloc hq)⟩) ?_⟩
      simp only [RD, Rep]
      exact ⟨q, rfl, by show (m1.at_ ++ [q])[S1.length]? = some q; rw [List.getElem?_append_right (by rw [s.len]; omega)]; simp [s.len]⟩
    · exact p.elim
/-! calls of built-ins -/
theorem callB_of {r : List V → Hp → VK → Prop} {F : List D → Sto → Res D} (hN : OpN (g3 X) X.mg r F) {σ : L2.St} {H : Hp} {Q : VK} (h : tE (g3 X) X.mg E (eCall F g) σ H Q) : tCB r (tA (g3 X) X.mg E g) σ H Q := by
  obtain ⟨m, fr, S, at_, h⟩ := h
  refine ⟨m, fr, S, at_, POk.bind h fun x S1 m1 v H1 e g s r p => ?_⟩
  exact hN E σ m1 H1 S1 x v Q s r p
theorem se_callB {x : Str} {p : Pos} {id : String} {r : List V → Hp → VK → Prop} {F : List D → Sto → Res D} (hc : CallR X (.builtin id) r) (hN : OpN (g3 X) X.mg r F) (hg : Gl X x) (hm : X.mg x = none) (hv : bootBuiltins x = some (.builtin id)) (ha : SA X E (e :: es) g)
    (hn : x ≠ "__name__" := by decide) (hdb : (x == ("__debug__" : Str)) = false := by decide)
    (he : starEach (e :: es) X.env = (false, eval e X.env) :: starEach es X.env := by rfl) (hpl : (backTo pos (starEach es X.env)).any (·.1) = false := by rfl) : SE X E (.Call (.Name x p) (e :: es) [] pos) (eCall F g) :=
  pe_imp (pe_callB hc hg hm hv ha hn hdb he hpl) fun _ _ _ h => callB_of hN h
theorem se_callTy {x : Str} {p : Pos} {T : String} {r : List V → Hp → VK → Prop} {F : List D → Sto → Res D} (hc : CallR X (.type T) r) (hN : OpN (g3 X) X.mg r F) (hg : Gl X x) (hm : X.mg x = none) (hv : bootBuiltins x = some (.type T)) (ha : SA X E (e :: es) g)
    (hn : x ≠ "__name__" := by decide) (hdb : (x == ("__debug__" : Str)) = false := by decide)
    (he : starEach (e :: es) X.env = (false, eval e X.env) :: starEach es X.env := by rfl) (hpl : (backTo pos (starEach es X.env)).any (·.1) = false := by rfl) : SE X E (.Call (.Name x p) (e :: es) [] pos) (eCall F g) :=
  pe_imp (pe_callTy hc hg hm hv ha hn hdb he hpl) fun _ _ _ h => callB_of hN h
/-! calls of defs -/
/-- a def's promise by its function -/
def spF (G : W3) (mg : Str → Option Value) (n : Nat) (F : List D → Sto → Res D) : Sp := fun vs H Q E => vs.length = n ∧ ∃ m S ds, Sim G H m S ∧ RepL G.K H m ds vs ∧ POk (RD G) G mg (fun c d _ H => E c d H) [] m H Q (F ds S)
theorem POk.sigma {α β : Type} {R : Hp → Mp → α → β → Prop} {G : W3} {mg : Str → Option Value} {E : WX} {E' : XK} {σ σ' : L2.St} {m : Mp} {H : Hp} {Q : β → Hp → Prop} {r : Res α} (h : POk R G mg E σ m H Q r) (hE : ∀ c d H, E c d σ H → E' c d H) :
    POk R G mg (fun c d _ H => E' c d H) σ' m H Q r := by
  cases r with
  | ok a S => exact h
  | exc c S => exact fun m' H' C g s e => hE _ _ _ (h m' H' C g s e)
  | bad => exact h
theorem call_of {F : List D → Sto → Res D} {n : Nat} (hn : ∀ ds S, F ds S ≠ .bad → ds.length = n) {σ : L2.St} {H : Hp} {Q : VK} (h : tE (g3 X) X.mg E (eCall F g) σ H Q) : tCallS (spF (g3 X) X.mg n F) (WE E) (tA (g3 X) X.mg E g) σ H Q := by
  obtain ⟨m, fr, S, at_, h⟩ := h
  refine ⟨m, fr, S, at_, POk.bind h fun x S1 m1 v H1 e g s r p => ?_⟩
  refine ⟨?_, m1, S1, x, s, r, p.sigma fun c d H h => h⟩
  rw [r.length]
  refine hn x S1 fun hb => ?_
  rw [hb] at p
  exact p
theorem se_call {x : Str} {p : Pos} {k n : Nat} {fa : Addr} {fd : FuncData} {ps : List Str} {F : List D → Sto → Res D} (hF : FnOk X.prog X.w X.K X.mg X.base (L2N.CX X.prog X.w) k fa fd ps (spF (g3 X) X.mg n F)) (hn : ∀ ds S, F ds S ≠ .bad → ds.length = n)
    (hr : Room k X.A) (hg : Gl X x) (hm : X.mg x = some (.ref fa)) (hk : PySem.W.keepIn X.K (.ref fa) = true) (hb : Binds X.K fd ps []) (tk : L2N.Takes X E) (ha : SA X E (e :: es) g)
    (hdb : (x == ("__debug__" : Str)) = false := by decide) (he : starEach (e :: es) X.env = (false, eval e X.env) :: starEach es X.env := by rfl) (hpl : (backTo pos (starEach es X.env)).any (·.1) = false := by rfl) :
    SE X E (.Call (.Name x p) (e :: es) [] pos) (eCall F g) :=
  pe_imp (pe_callS hF hr hg hm hk hb (fun σ => L2N.passAt tk σ) ha hdb he hpl) fun _ _ _ h => call_of hn h
end
/-! ### statements -/
def sNil : MS := fun fr S => .nx fr S
def sSeq (f g : MS) : MS := fun fr S => match f fr S with
  | .nx fr S => g fr S
  | r => r
def sSet (i : Nat) (f : ME) : MS := fun fr S => (f fr S).then fun d S => .nx (fr.set i (some d)) S
def sRet (f : ME) : MS := fun fr S => (f fr S).then fun d S => .ret d S
def sRetN : MS := fun _ S => .ret .non S
def sExpr (f : ME) : MS := fun fr S => (f fr S).then fun _ S => .nx fr S
def sIf (c : MT) (f g : MS) : MS := fun fr S => (c fr S).then fun b S => if b then f fr S else g fr S
def sRaise (c : Str) : MS := fun _ S => .exc c S
section
variable {X : Cx} {E : WX} {st : Stmt} {rest : List Stmt} {e : Expr} {f : ME} {s t : MS} {pos : Pos}
theorem sb_nil : SB X E [] sNil := pss_imp pss_nil fun Dn σ H h => by
  obtain ⟨m, fr, S, at_, h⟩ := h
  exact h m σ H (.refl _ _) at_
theorem sb_cons (h1 : SS X E st s) (h2 : SB X E rest t) : SB X E (st :: rest) (sSeq s t) := pss_imp (pss_cons h1 h2) fun Dn σ H h => by
  obtain ⟨m, fr, S, at_, h⟩ := h
  refine ⟨m, fr, S, at_, ?_⟩
  unfold sSeq at h
  cases e : s fr S with
  | nx fr' S' => rw [e] at h; exact fun m' σ' H' g a => ⟨m', fr', S', a, h.mono g⟩
  | ret d S' => rw [e] at h; exact h
  | brk fr' S' => rw [e] at h; exact h
  | cnt fr' S' => rw [e] at h; exact h
  | exc c S' => rw [e] at h; exact h
  | bad => rw [e] at h; exact h
theorem sb_one (h1 : SS X E st s) : SB X E [st] s := pss_one h1
theorem ss_set {i : Nat} {x : Str} {pos' : Pos} (hN : X.N.Nodup) (hi : X.N[i]? = some x) (hx : Loc X.env.scope x) (he : SE X E e f) (hs : swapsWith e (some (.Name x pos')) pos.line X.env = pure false := by rfl) (hf : X.fn x = true ∨ X.env.scope.names.lookup x = some .local := by first | exact .inl rfl | exact .inr rfl | assumption) :
    SS X E (.Assign [.Name x pos'] e pos) (sSet i f) := ps_imp (ps_set hN hi hx he hs hf) fun Dn σ H h => by
  obtain ⟨m, fr, S, at_, h⟩ := h
  refine ⟨m, fr, S, at_, PSt.then h fun x S1 m1 v H1 e g s r p => ?_⟩
  exact p m1 _ H1 (.refl _ _) ⟨(at_.f.mono g).set i r, s⟩
theorem ss_ret (he : SE X E e f) : SS X E (.Return (some e) pos) (sRet f) := ps_imp (ps_ret he) fun Dn σ H h => by
  obtain ⟨m, fr, S, at_, h⟩ := h
  refine ⟨m, fr, S, at_, PSt.then h fun x S1 m1 v H1 e g s r p => ?_⟩
  exact p m1 _ H1 (.refl _ _) s r
theorem ss_retN : SS X E (.Return none pos) sRetN := ps_imp ps_retN fun Dn σ H h => by
  obtain ⟨m, fr, S, at_, h⟩ := h
  exact h m _ H (.refl _ _) at_.s (by simp only [Rep])
theorem ss_expr (he : SE X E e f) (hs : swapsWith e none pos.line X.env = pure false := by rfl) : SS X E (.Expr e pos) (sExpr f) := ps_imp (ps_expr he hs) fun Dn σ H h => by
  obtain ⟨m, fr, S, at_, h⟩ := h
  refine ⟨m, fr, S, at_, PSt.then h fun x S1 m1 v H1 e g s r p => ?_⟩
  exact p m1 _ H1 (.refl _ _) ⟨at_.f.mono g, s⟩
theorem ss_if {c : Expr} {a b : List Stmt} {p : MT} (hc : ST X E c p) (ha : SB X E a s) (hb : SB X E b t) : SS X E (.If c a b pos) (sIf p s t) := ps_imp (ps_if hc ha hb) fun Dn σ H h => by
  obtain ⟨m, fr, S, at_, h⟩ := h
  refine ⟨m, fr, S, at_, PSt.then h fun x S1 m1 v H1 e g s r p => ?_⟩
  subst r
  cases v with
  | true => exact ⟨m1, fr, S1, ⟨at_.f.mono g, s⟩, p⟩
  | false => exact ⟨m1, fr, S1, ⟨at_.f.mono g, s⟩, p⟩
/-- raise C('..') -/
theorem ss_raise {C : Addr} {bmB : List Value} {B newId initId : String} {x m : Str} {j : Nat} {p p2 pos' : Pos} (hc : X.calm = true) (tk : L2N.Takes X E) (F : ExcBaseFacts B newId initId bmB) (q : PySem.W.excIn X.K C bmB newId = true) (gC : X.mg x = some (.ref C))
    (kC : PySem.W.keepIn X.K (.ref C) = true) (r : Raises X (.ref C)) (hg : Gl X x) (hdb : (x == ("__debug__" : Str)) = false := by decide) :
    SS X E (.Raise (some (.Call (.Name x p) [.Constant (.str m) j p2] [] pos')) none pos) (sRaise x) :=
  ps_imp (L2N.ps_raise hc tk (L2N.pmk_own F q gC kC r hg hdb)) fun Dn σ H h => by
    obtain ⟨m, fr, S, at_, h⟩ := h
    exact h m σ H C (.refl _ _) at_.s gC
end
/-! ### a def -/
def startF (n : Nat) (ds : List D) : Fr := ds.map some ++ List.replicate (n - ds.length) none
def bodyRes : RS → Res D
  | .nx _ S => .ok .non S
  | .ret d S => .ok d S
  | .exc c S => .exc c S
  | _ => .bad
theorem RepL.start {K : PySem.W.Frag} {H : Hp} {m : Mp} {ds : List D} {vs : List V} {N : List Str} (r : RepL K H m ds vs) : SimF K H m (L2.start N vs) (startF N.length ds) := by
  have hl := r.length
  refine ⟨by simp [L2.start, startF, hl], fun i d e => ?_⟩
  unfold startF at e
  unfold L2.start
  by_cases hi : i < ds.length
  · rw [List.getElem?_append_left (by simpa using hi), List.getElem?_map] at e
    cases e' : ds[i]? with
    | none => rw [e'] at e; cases e
    | some d' =>
      rw [e'] at e
      simp at e
      subst e
      obtain ⟨v, h1, h2⟩ := r.get e'
      refine ⟨v, ?_, h2⟩
      rw [List.getElem?_append_left (by rw [List.length_map, hl]; exact hi), List.getElem?_map, h1]
      rfl
  · rw [List.getElem?_append_right (by simpa using Nat.le_of_not_lt hi), List.getElem?_replicate] at e
    split at e <;> cases e
/-- the context of a def's body -/
abbrev cxN (P : Program) (w : World) (K : PySem.W.Frag) (mg : Str → Option Value) (base : Heap) (N : List Str) (qual : Str) (st : Stmt) (f : Addr) (cdv : Value) (A : Around) (outer : List Env) (s : Shared) (H : Hp) (E : XK) : Cx :=
  cxOf (L2N.CX P w) P w K mg base N qual (defScope st) f cdv A outer s H E
abbrev EN (E : XK) : WX := fun cls d _ H => E cls d H
/-- THE RULE for a def -/
theorem fn_sound {P : Program} {w : World} {K : PySem.W.Frag} {mg : Str → Option Value} {base : Heap} {x qual : Str} {st : Stmt} {f : Addr} {fd : FuncData} {N ps : List Str} {k : Nat} {F : List D → Sto → Res D} {b : MS}
    (Fn : Fun K x qual st f fd) (Sc : FnScope N ps (defScope st))
    (hb : ∀ (cdv : Value) (A : Around) (outer : List Env) (s : Shared) (H : Hp) (E : XK), Room k (cxN P w K mg base N qual st f cdv A outer s H E).A → L2N.Takes (cxN P w K mg base N qual st f cdv A outer s H E) (EN E) →
      PassesOwn (model P w) (cxN P w K mg base N qual st f cdv A outer s H E).A (cxN P w K mg base N qual st f cdv A outer s H E).env (cxN P w K mg base N qual st f cdv A outer s H E).xe →
      SB (cxN P w K mg base N qual st f cdv A outer s H E) (EN E) (defBody st) b)
    (hF : ∀ ds S, F ds S ≠ .bad → ds.length = ps.length ∧ bodyRes (b (startF N.length ds) S) = F ds S) :
    FnOk P w K mg base (L2N.CX P w) (k + 1) f fd ps (spF ⟨P, w, K⟩ mg ps.length F) := by
  obtain ⟨oc, od, kV, doc, pm, an, cdv, ct, osl, rfl, lk, hcd⟩ := Fn.ex
  refine fn_of lk hcd Sc (fun vs H Q E h => h.1) (fun A outer s H vs Q E hr h => ?_)
  obtain ⟨hl, m, S, ds, sim, rep, h⟩ := h
  refine ⟨_, hb cdv A outer s H E hr (L2N.takes_of rfl rfl rfl rfl) (passes_of rfl), ?_⟩
  have hnb : F ds S ≠ .bad := fun e => by rw [e] at h; exact h
  obtain ⟨_, e⟩ := hF ds S hnb
  rw [← e] at h
  refine ⟨m, startF N.length ds, S, ⟨rep.start, sim⟩, ?_⟩
  cases e2 : b (startF N.length ds) S with
  | nx fr S' => rw [e2] at h; exact fun m' σ' H' g a => h m' .non H' g a.s (by simp only [RD, Rep])
  | ret d S' => rw [e2] at h; exact fun m' v H' g s r => h m' v H' g s r
  | brk fr S' => rw [e2] at h; exact h.elim
  | cnt fr S' => rw [e2] at h; exact h.elim
  | exc c S' => rw [e2] at h; exact fun m' σ' H' C g s e => h m' H' C g s e
  | bad => rw [e2] at h; exact h.elim
end Py
set_option maxRecDepth 100000
set_option maxHeartbeats 1000000
namespace Py
open PySem PySem.Spec PyProof.Rows L2

/-! ### targets -/
abbrev MG := D → Fr → Option Fr
abbrev MGs := List D → Fr → Option Fr
def tG (G : W3) (sl : List Nat) (g : MG) : TG := fun v σ H Q => ∃ m fr d fr', SimF G.K H m σ fr ∧ Rep G.K H m d v ∧ g d fr = some fr' ∧
  ∀ σ', SimF G.K H m σ' fr' → σ'.length = σ.length → (∀ i, i ∉ sl → σ'[i]? = σ[i]?) → Q σ' H
def tGs (G : W3) (sl : List Nat) (g : MGs) : TGs := fun vs σ H Q => ∃ m fr ds fr', SimF G.K H m σ fr ∧ RepL G.K H m ds vs ∧ g ds fr = some fr' ∧
  ∀ σ', SimF G.K H m σ' fr' → σ'.length = σ.length → (∀ i, i ∉ sl → σ'[i]? = σ[i]?) → Q σ' H
def SG (X : Cx) (sl : List Nat) (tg : Expr) (g : MG) : Prop := PG X tg (tG (g3 X) sl g)
def SGs (X : Cx) (sl : List Nat) (tgs : List Expr) (g : MGs) : Prop := PGs X tgs (tGs (g3 X) sl g)
def gN (i : Nat) : MG := fun d fr => some (fr.set i (some d))
def gs0 : MGs := fun ds fr => match ds with | [] => some fr | _ => none
def gsC (g : MG) (gs : MGs) : MGs := fun ds fr => match ds with | d :: r => (match g d fr with | some fr' => gs r fr' | none => none) | [] => none
def gT (n : Nat) (gs : MGs) : MG := fun d fr => match d with | .tup ds => if ds.length = n then gs ds fr else none | _ => none
theorem pg_imp {X : Cx} {tg : Expr} {t t' : TG} (h : PG X tg t) (w : ∀ v σ H Q, t' v σ H Q → t v σ H Q) : PG X tg t' := ⟨fun pins s σ H v u Q I r q => h.run pins s σ H v u Q I r (w v σ H Q q)⟩
theorem pgs_imp {X : Cx} {tg : List Expr} {t t' : TGs} (h : PGs X tg t) (w : ∀ v σ H Q, t' v σ H Q → t v σ H Q) : PGs X tg t' := ⟨fun pins s σ H v u Q I r q => h.run pins s σ H v u Q I r (w v σ H Q q)⟩
section
variable {X : Cx} {pos : Pos}
theorem sg_name {i : Nat} {x : Str} (hN : X.N.Nodup) (hi : X.N[i]? = some x) (hx : Loc X.env.scope x) (hf : X.fn x = true ∨ X.env.scope.names.lookup x = some .local := by first | exact .inl rfl | exact .inr rfl | assumption) : SG X [i] (.Name x pos) (gN i) :=
  pg_imp (pg_name hN hi hx hf) fun v σ H Q h => by
    obtain ⟨m, fr, d, fr', s, r, e, q⟩ := h
    cases e
    exact q _ (s.set i r) (by simp) (fun j hj => by rw [List.getElem?_set_ne]; simp at hj; exact fun e => hj e.symm)
theorem sgs_nil : SGs X [] [] gs0 := pgs_imp pgs_nil fun v σ H Q h => by
  obtain ⟨m, fr, d, fr', s, r, e, q⟩ := h
  cases d with
  | nil => cases e; simp only [RepL] at r; exact ⟨r, q σ s rfl (fun _ _ => rfl)⟩
  | cons d ds => cases e
theorem sgs_cons {e : Expr} {es : List Expr} {g : MG} {gs : MGs} {sl sl' : List Nat} (h1 : SG X sl e g) (h2 : SGs X sl' es gs)
    (hs : (assignEach (e :: es) X.env).map (·.2) = assign e X.env :: (assignEach es X.env).map (·.2) := by rfl) : SGs X (sl ++ sl') (e :: es) (gsC g gs) :=
  pgs_imp (pgs_cons h1 h2 hs) fun v σ H Q h => by
    obtain ⟨m, fr, d, fr', s, r, e, q⟩ := h
    cases d with
    | nil => cases e
    | cons d ds =>
      simp only [RepL] at r
      obtain ⟨v1, vr, ev, r1, r2⟩ := r
      unfold gsC at e
      cases e1 : g d fr with
      | none => simp only [e1] at e; cases e
      | some fr1 =>
        simp only [e1] at e
        refine ⟨v1, vr, ev, m, fr, d, fr1, s, r1, e1, fun σ1 s1 l1 k1 => ⟨m, fr1, ds, fr', s1, r2, e, fun σ2 s2 l2 k2 => q σ2 s2 (l2.trans l1) fun i hi => ?_⟩⟩
        rw [List.mem_append, not_or] at hi
        rw [k2 i hi.2, k1 i hi.1]
theorem sg_tup {es : List Expr} {k n : Nat} {gs : MGs} {sl : List Nat} (hc : X.calm = true) (h : SGs X sl es gs) (hn : (assignEach es X.env).length = n := by rfl) (hst : (assignEach es X.env).findIdx? (·.1) = none := by rfl) : SG X sl (.Tuple es k pos) (gT n gs) :=
  pg_imp (pg_tup hc h hn hst) fun v σ H Q h => by
    obtain ⟨m, fr, d, fr', s, r, e, q⟩ := h
    cases d with
    | tup ds =>
      simp only [gT] at e
      split at e
      · rename_i hl
        simp only [Rep] at r
        obtain ⟨a, vs, ev, t, r⟩ := r
        exact ⟨a, vs, ev, t.sq, r.length.trans hl, m, fr, ds, fr', s, r, e, q⟩
      · cases e
    | _ => cases e
/-- target = value -/
def sAsg (g : MG) (f : ME) : MS := fun fr S => (f fr S).then fun d S => match g d fr with | some fr' => .nx fr' S | none => .bad
theorem ss_asg {E : WX} {tg e : Expr} {f : ME} {g : MG} {sl : List Nat} (he : SE X E e f) (hg : SG X sl tg g) (hs : swapsWithSole [tg] e pos.line X.env = pure false := by rfl) (hw : swappedStores [tg] e X.env = pure none := by rfl)
    (h1 : (assignEach [tg] X.env).map (·.2) = [assign tg X.env] := by rfl) : SS X E (.Assign [tg] e pos) (sAsg g f) := ps_imp (ps_asg he hg hs hw h1) fun Dn σ H h => by
  obtain ⟨m, fr, S, at_, h⟩ := h
  refine ⟨m, fr, S, at_, PSt.then h fun x S1 m1 v H1 e g' s r p => ?_⟩
  cases e1 : g x fr with
  | none => simp only [e1] at p; exact p.elim
  | some fr' =>
    simp only [e1] at p
    exact ⟨m1, fr, x, fr', at_.f.mono g', r, e1, fun σ' s' _ _ => p m1 σ' H1 (.refl _ _) ⟨s', s⟩⟩
end
/-! ### what is walked -/
structure Its where
  items : List D
  guard : Option (Nat × List D)
def okG (it : Its) (S : Sto) : Prop := match it.guard with
  | none => True
  | some (n, ds) => S[n]? = some (.lst ds)
structure WalkS (G : W3) (it : Its) (m1 : Mp) (H1 : Hp) (J : L2.It) : Prop where
  go : ∀ (i : Nat) m H S, Grow m1 H1 m H → Sim G H m S → okG it S → i < it.items.length → J.go i H
  stop : ∀ m H S, Grow m1 H1 m H → Sim G H m S → okG it S → J.stop it.items.length H
  yld : ∀ (i : Nat) m H S x H', Grow m1 H1 m H → Sim G H m S → okG it S → i < it.items.length → J.yld i H x H' → Grow m H m H' ∧ Sim G H' m S ∧ ∃ d, it.items[i]? = some d ∧ Rep G.K H' m d x
abbrev MI := Fr → Sto → Res Its
def PIk (G : W3) (mg : Str → Option Value) (E : WX) (σ : L2.St) (m : Mp) (H : Hp) (R : L2.It → Hp → Prop) : Res Its → Prop
  | .ok it S' => ∀ m' H' J, Grow m H m' H' → Sim G H' m' S' → WalkS G it m' H' J → R J H'
  | .exc c S' => ∀ m' H' C, Grow m H m' H' → Sim G H' m' S' → mg c = some (.ref C) → E (.ref C) none σ H'
  | .bad => False
def tI (G : W3) (mg : Str → Option Value) (E : WX) (f : MI) : TI := fun σ H R => ∃ m fr S, At G H m σ fr S ∧ PIk G mg E σ m H R (f fr S)
def SI (X : Cx) (E : WX) (tg iter : Expr) (f : MI) : Prop := PI X tg iter (tI (g3 X) X.mg E f)
theorem pi_imp {X : Cx} {tg iter : Expr} {t t' : TI} (h : PI X tg iter t) (w : ∀ σ H R, t' σ H R → t σ H R) : PI X tg iter t' := ⟨fun pins s σ H R I q => h.run pins s σ H R I (w σ H R q)⟩
theorem PIk.mono {G : W3} {mg : Str → Option Value} {E : WX} {σ : L2.St} {m m1 : Mp} {H H1 : Hp} {R : L2.It → Hp → Prop} {r : Res Its} (g : Grow m H m1 H1) (h : PIk G mg E σ m H R r) : PIk G mg E σ m1 H1 R r := by
  cases r with
  | ok a S => exact fun m' H' J g' s' r' => h m' H' J (g.trans g') s' r'
  | exc c S => exact fun m' H' C g' s' e' => h m' H' C (g.trans g') s' e'
  | bad => exact h
theorem PIk.bind {α β : Type} {R : Hp → Mp → α → β → Prop} {G : W3} {mg : Str → Option Value} {E : WX} {σ : L2.St} {m : Mp} {H : Hp} {Q : L2.It → Hp → Prop} {Q1 : β → Hp → Prop} {r : Res α} {k : α → Sto → Res Its}
    (h : PIk G mg E σ m H Q (r.bind k)) (hq : ∀ a S1 m1 v H1, r = .ok a S1 → Grow m H m1 H1 → Sim G H1 m1 S1 → R H1 m1 a v → PIk G mg E σ m1 H1 Q (k a S1) → Q1 v H1) : POk R G mg E σ m H Q1 r := by
  cases r with
  | ok a S => exact fun m' v H' g' s' r' => hq a S m' v H' rfl g' s' r' (PIk.mono (r := k a S) g' h)
  | exc c S => exact h
  | bad => exact h
theorem walkS_list {G : W3} {it : Its} {m1 : Mp} {H1 : Hp} {a : Addr} (h : ∀ m H S, Grow m1 H1 m H → Sim G H m S → okG it S → ∃ vs, SqL G.K H a vs ∧ RepL G.K H m it.items vs) : WalkS G it m1 H1 (Itl G.K a) where
  go := fun i m H S g s o hi => by
    obtain ⟨vs, h1, r⟩ := h m H S g s o
    obtain ⟨v, e, _⟩ := r.get (List.getElem?_eq_getElem hi)
    exact ⟨vs, v, h1, e⟩
  stop := fun m H S g s o => by
    obtain ⟨vs, h1, r⟩ := h m H S g s o
    exact ⟨vs, h1, by rw [r.length]; exact Nat.le_refl _⟩
  yld := fun i m H S x H' g s o hi hy => by
    obtain ⟨vs, h1, r⟩ := h m H S g s o
    obtain ⟨rfl, hy⟩ := hy
    obtain ⟨d, e1, r⟩ := r.getV (hy vs h1)
    exact ⟨.refl _ _, s, d, e1, r⟩
theorem walkS_tup {G : W3} {it : Its} {m1 : Mp} {H1 : Hp} {a : Addr} (h : ∀ m H S, Grow m1 H1 m H → Sim G H m S → okG it S → ∃ vs, SqT G.K H a vs ∧ RepL G.K H m it.items vs) : WalkS G it m1 H1 (Itt G.K a) where
  go := fun i m H S g s o hi => by
    obtain ⟨vs, h1, r⟩ := h m H S g s o
    obtain ⟨v, e, _⟩ := r.get (List.getElem?_eq_getElem hi)
    exact ⟨vs, v, h1, e⟩
  stop := fun m H S g s o => by
    obtain ⟨vs, h1, r⟩ := h m H S g s o
    exact ⟨vs, h1, by rw [r.length]; exact Nat.le_refl _⟩
  yld := fun i m H S x H' g s o hi hy => by
    obtain ⟨vs, h1, r⟩ := h m H S g s o
    obtain ⟨rfl, hy⟩ := hy
    obtain ⟨d, e1, r⟩ := r.getV (hy vs h1)
    exact ⟨.refl _ _, s, d, e1, r⟩
/-- the items of a sequence as the store has them -/
def seqIts (S : Sto) : D → Option Its
  | .tup ds => some ⟨ds, none⟩
  | .lst ds => some ⟨ds, none⟩
  | .ref n => (match S[n]? with | some (.lst ds) => some ⟨ds, some (n, ds)⟩ | _ => none)
  | _ => none
theorem Sim.lst {G : W3} {H : Hp} {m : Mp} {S : Sto} (s : Sim G H m S) {n : Nat} {a : Addr} {ds : List D} (h : m.at_[n]? = some a) (h2 : S[n]? = some (.lst ds)) : ∃ vs, H a = some (.lst vs) ∧ RepL G.K H m ds vs := s.at_ n a _ h h2
theorem seq_cases {G : W3} {H : Hp} {m : Mp} {S : Sto} {d : D} {v : V} {it : Its} (s : Sim G H m S) (r : Rep G.K H m d v) (e : seqIts S d = some it) :
    ∃ a, v = .ref a ∧ ((∃ vs, SqL G.K H a vs ∧ RepL G.K H m it.items vs ∧ WalkS G it m H (Itl G.K a)) ∨ (∃ vs, SqT G.K H a vs ∧ RepL G.K H m it.items vs ∧ WalkS G it m H (Itt G.K a))) := by
  cases d with
  | tup ds =>
    cases e
    simp only [Rep] at r
    obtain ⟨a, vs, ev, t, r⟩ := r
    refine ⟨a, ev, .inr ⟨vs, t.sq, r, walkS_tup fun m' H' S' g s' _ => ⟨vs, (t.mono g).sq, r.mono g⟩⟩⟩
  | lst ds =>
    cases e
    simp only [Rep] at r
    obtain ⟨a, vs, ev, hn, t, r⟩ := r
    refine ⟨a, ev, .inl ⟨vs, .of t, r, walkS_list fun m' H' S' g s' _ => ⟨vs, .of (g.keep _ _ t hn.1), r.mono g⟩⟩⟩
  | ref n =>
    simp only [seqIts] at e
    split at e
    · rename_i ds hS
      cases e
      simp only [Rep] at r
      obtain ⟨a, ev, ha⟩ := r
      obtain ⟨vs, h1, r1⟩ := s.lst ha hS
      refine ⟨a, ev, .inl ⟨vs, .of h1, r1, walkS_list fun m' H' S' g s' o => ?_⟩⟩
      obtain ⟨vs', h2, r2⟩ := s'.lst (g.at ha) o
      exact ⟨vs', .of h2, r2⟩
    · cases e
  | _ => cases e
def iSeq (f : ME) : MI := fun fr S => (f fr S).bind fun d S => match seqIts S d with | some it => .ok it S | none => .bad
section
variable {X : Cx} {E : WX} {tg : Expr}
/-- a list or a tuple is walked -/
theorem pi_either {l : Expr} {tl : TE} (hl : PE X l tl) : PI X tg l (fun σ H R => tl σ H fun x H1 => ∃ a, x = .ref a ∧ (((∃ xs, SqL X.K H1 a xs) ∧ R (Itl X.K a) H1) ∨ ((∃ xs, SqT X.K H1 a xs) ∧ R (Itt X.K a) H1))) := by
  constructor
  intro pins s σ H R I h
  refine thn (hl.run pins s σ H _ I h) ?_
  rintro v s1 ⟨x, H1, I1, r1, a, rfl, ⟨⟨xs, hq⟩, q⟩ | ⟨⟨xs, hq⟩, q⟩⟩
  · cases r1
    obtain ⟨its, rv, p, hz⟩ := I1.list hq
    apply wpAny_pyIter_list p.isList
    exact ⟨_, [s1.heap.objs.size], _, _, H1, rfl, I1.kept (t' := s1.toks) fun b o e => Heap.get?_push_of_some _ e, turn_list a _, ⟨_, Heap.get?_push_size _ rfl, rfl, rfl⟩,
      fun b hb => by rw [List.mem_singleton.1 hb]; exact I1.fpOk (Nat.le_refl _) (I1.hok.fresh (Nat.le_refl _)), q⟩
  · cases r1
    obtain ⟨its, rv, p, hz⟩ := I1.tuple hq
    apply wpAny_pyIter_tuple (show s1.heap.IsTuple a its.toArray from p)
    exact ⟨_, [s1.heap.objs.size], _, _, H1, rfl, I1.kept (t' := s1.toks) fun b o e => Heap.get?_push_of_some _ e, turn_tuple a _, ⟨_, Heap.get?_push_size _ rfl, rfl, rfl⟩,
      fun b hb => by rw [List.mem_singleton.1 hb]; exact I1.fpOk (Nat.le_refl _) (I1.hok.fresh (Nat.le_refl _)), q⟩
theorem si_seq {l : Expr} {f : ME} (hl : SE X E l f) : SI X E tg l (iSeq f) := pi_imp (pi_either hl) fun σ H R h => by
  obtain ⟨m, fr, S, at_, h⟩ := h
  refine ⟨m, fr, S, at_, PIk.bind h fun d S1 m1 v H1 e g s r p => ?_⟩
  cases e1 : seqIts S1 d with
  | none => simp only [e1] at p; exact p.elim
  | some it =>
    simp only [e1] at p
    obtain ⟨a, ev, ⟨vs, h1, h2, w⟩ | ⟨vs, h1, h2, w⟩⟩ := seq_cases s r e1
    · exact ⟨a, ev, .inl ⟨⟨vs, h1⟩, p m1 H1 _ (.refl _ _) s w⟩⟩
    · exact ⟨a, ev, .inr ⟨⟨vs, h1⟩, p m1 H1 _ (.refl _ _) s w⟩⟩
/-- range(n), range(a, b) -/
def rngD (lo : Int) (n : Nat) : List D := (List.range n).map fun (i : Nat) => D.int (lo + i)
theorem rngD_get {lo : Int} {n i : Nat} (h : i < n) : (rngD lo n)[i]? = some (.int (lo + i)) := by
  unfold rngD; rw [List.getElem?_map, List.getElem?_range h]; rfl
theorem rngD_len (lo : Int) (n : Nat) : (rngD lo n).length = n := by unfold rngD; simp
theorem walkS_range {G : W3} {m1 : Mp} {H1 : Hp} {lo : Int} {n : Nat} : WalkS G ⟨rngD lo n, none⟩ m1 H1 (Itr lo n) where
  go := fun i m H S g s o hi => by show i < n; rw [rngD_len] at hi; exact hi
  stop := fun m H S g s o => by show n ≤ _; rw [rngD_len]; exact Nat.le_refl _
  yld := fun i m H S x H' g s o hi hy => by
    obtain ⟨rfl, rfl⟩ := hy
    rw [rngD_len] at hi
    exact ⟨.refl _ _, s, _, rngD_get hi, by simp only [Rep]⟩
open Classical in
noncomputable def iRng1' (f : MA) : MI := fun fr S => (f fr S).bind fun xs S => match xs with
  | [.int j] => if -(2 ^ 62) ≤ j ∧ j < 2 ^ 62 then .ok ⟨rngD 0 j.toNat, none⟩ S else .bad
  | _ => .bad
open Classical in
noncomputable def iRng2' (f : MA) : MI := fun fr S => (f fr S).bind fun xs S => match xs with
  | [.int i, .int j] => if -(2 ^ 62) ≤ i ∧ i < 2 ^ 62 ∧ -(2 ^ 62) ≤ j ∧ j < 2 ^ 62 then .ok ⟨rngD i (j - i).toNat, none⟩ S else .bad
  | _ => .bad
theorem si_range1 {a : Expr} {f : MA} {p pos : Pos} (hg : Gl X "range") (hm : X.mg "range" = none) (ha : SA X E [a] f) (hs : starEach [a] X.env = [(false, eval a X.env)] := by rfl) : SI X E tg (.Call (.Name "range" p) [a] [] pos) (iRng1' f) :=
  pi_imp (pi_range1 hg hm ha hs) fun σ H R h => by
    obtain ⟨m, fr, S, at_, h⟩ := h
    refine ⟨m, fr, S, at_, PIk.bind h fun d S1 m1 v H1 e g s r p => ?_⟩
    split at p
    · rename_i j
      split at p
      · rename_i hj
        have ev := RepL.ints (ns := [j]) r
        exact ⟨j, ev, hj.1, hj.2, p m1 H1 _ (.refl _ _) s walkS_range⟩
      · exact p.elim
    · exact p.elim
theorem si_range2 {a b : Expr} {f : MA} {p pos : Pos} (hg : Gl X "range") (hm : X.mg "range" = none) (ha : SA X E [a, b] f) (hs : starEach [a, b] X.env = [(false, eval a X.env), (false, eval b X.env)] := by rfl) (hs2 : starEach [b] X.env = [(false, eval b X.env)] := by rfl) :
    SI X E tg (.Call (.Name "range" p) [a, b] [] pos) (iRng2' f) :=
  pi_imp (pi_range2 hg hm ha hs hs2) fun σ H R h => by
    obtain ⟨m, fr, S, at_, h⟩ := h
    refine ⟨m, fr, S, at_, PIk.bind h fun d S1 m1 v H1 e g s r p => ?_⟩
    split at p
    · rename_i i j
      split at p
      · rename_i hj
        have ev := RepL.ints (ns := [i, j]) r
        exact ⟨i, j, ev, hj, p m1 H1 _ (.refl _ _) s walkS_range⟩
      · exact p.elim
    · exact p.elim
/-- enumerate(list) -/
def enumD (i : Nat) : List D → List D
  | [] => []
  | d :: ds => .tup [.int i, d] :: enumD (i + 1) ds
theorem enumD_len : ∀ (i : Nat) (ds : List D), (enumD i ds).length = ds.length
  | _, [] => rfl
  | i, d :: ds => by simp only [enumD, List.length_cons, enumD_len (i + 1) ds]
theorem enumD_get : ∀ (i : Nat) (ds : List D) (j : Nat) (d : D), ds[j]? = some d → (enumD i ds)[j]? = some (.tup [.int ((i + j : Nat) : Int), d])
  | i, [], j, d, h => by simp at h
  | i, d' :: ds, 0, d, h => by simp at h; subst h; rfl
  | i, d' :: ds, j + 1, d, h => by
    simp at h
    have := enumD_get (i + 1) ds j d h
    simp only [enumD, List.getElem?_cons_succ, this]
    rw [show i + 1 + j = i + (j + 1) by omega]
def iEnum' (f : MA) : MI := fun fr S => (f fr S).bind fun xs S => match xs with
  | [.lst ds] => .ok ⟨enumD 0 ds, none⟩ S
  | [.ref n] => (match S[n]? with | some (.lst ds) => .ok ⟨enumD 0 ds, some (n, ds)⟩ S | _ => .bad)
  | _ => .bad
theorem Rep.pair {G : W3} {H : Hp} {m : Mp} {T : Addr} {x y : V} {d e : D} (hT : H T = none) (r1 : Rep G.K H m d x) (r2 : Rep G.K H m e y) : Rep G.K (upd H T (.tup [x, y])) m (.tup [d, e]) (.ref T) :=
  .newTup hT (.cons r1 (.one r2))
theorem walkS_enum {G : W3} {ds : List D} {gd : Option (Nat × List D)} {m1 : Mp} {H1 : Hp} {a : Addr} (h : ∀ m H S, Grow m1 H1 m H → Sim G H m S → okG ⟨enumD 0 ds, gd⟩ S → ∃ vs, SqL G.K H a vs ∧ RepL G.K H m ds vs) : WalkS G ⟨enumD 0 ds, gd⟩ m1 H1 (Ite G.K a) where
  go := fun i m H S g s o hi => by
    obtain ⟨vs, h1, r⟩ := h m H S g s o
    rw [enumD_len] at hi
    obtain ⟨v, e, _⟩ := r.get (List.getElem?_eq_getElem hi)
    exact ⟨vs, v, h1, e⟩
  stop := fun m H S g s o => by
    obtain ⟨vs, h1, r⟩ := h m H S g s o
    exact ⟨vs, h1, by rw [r.length, enumD_len]; exact Nat.le_refl _⟩
  yld := fun i m H S x H' g s o hi hy => by
    obtain ⟨vs, h1, r⟩ := h m H S g s o
    obtain ⟨T, y, rfl, hT, rfl, hy⟩ := hy
    obtain ⟨d, e1, r1⟩ := r.getV (hy vs h1)
    refine ⟨.new hT, s.new hT, .tup [.int (i : Nat), d], ?_, .pair hT (by simp only [Rep]) r1⟩
    have := enumD_get 0 ds i d e1
    rw [Nat.zero_add] at this
    exact this
theorem si_enum {e : Expr} {f : MA} {p pos tpos : Pos} {elts : List Expr} {kk : Nat} (hg : Gl X "enumerate") (hm : X.mg "enumerate" = none) (ha : SA X E [e] f) (hs : starEach [e] X.env = [(false, eval e X.env)] := by rfl) :
    SI X E (.Tuple elts kk tpos) (.Call (.Name "enumerate" p) [e] [] pos) (iEnum' f) := pi_imp (pi_enum hg hm ha hs) fun σ H R h => by
  obtain ⟨m, fr, S, at_, h⟩ := h
  refine ⟨m, fr, S, at_, PIk.bind h fun d S1 m1 v H1 e g s r p => ?_⟩
  split at p
  · rename_i ds
    simp only [RDs, RepL, Rep] at r
    obtain ⟨v1, r1, rfl, ⟨a, vs, rfl, hn, t, rr⟩, rfl⟩ := r
    exact ⟨a, vs, rfl, .of t, p m1 H1 _ (.refl _ _) s (walkS_enum fun m' H' S' g s' _ => ⟨vs, .of (g.keep _ _ t hn.1), rr.mono g⟩)⟩
  · rename_i n
    split at p
    · rename_i ds hS
      simp only [RDs, RepL, Rep] at r
      obtain ⟨v1, r1, rfl, ⟨a, rfl, ha⟩, rfl⟩ := r
      obtain ⟨vs, h1, r1⟩ := s.lst ha hS
      refine ⟨a, vs, rfl, .of h1, p m1 H1 _ (.refl _ _) s (walkS_enum fun m' H' S' g s' o => ?_)⟩
      obtain ⟨vs', h2, r2⟩ := s'.lst (g.at ha) o
      exact ⟨vs', .of h2, r2⟩
    · exact p.elim
  · exact p.elim
/-- zip of two lists by value -/
def zipD (xs ys : List D) : List D := (xs.zip ys).map fun p => .tup [p.1, p.2]
def iZip' (f : MA) : MI := fun fr S => (f fr S).bind fun xs S => match xs with
  | [.lst ds, .lst es] => .ok ⟨zipD ds es, none⟩ S
  | _ => .bad
theorem si_zip {e e2 : Expr} {f : MA} {p pos tpos : Pos} {elts : List Expr} {kk : Nat} (hg : Gl X "zip") (hm : X.mg "zip" = none) (ha : SA X E [e, e2] f)
    (hs : starEach [e, e2] X.env = (false, eval e X.env) :: starEach [e2] X.env := by rfl) (hpl : (backTo pos (starEach [e2] X.env)).any (·.1) = false := by rfl) :
    SI X E (.Tuple elts kk tpos) (.Call (.Name "zip" p) [e, e2] [] pos) (iZip' f) := pi_imp (pi_zip hg hm ha hs hpl) fun σ H R h => by
  obtain ⟨m, fr, S, at_, h⟩ := h
  refine ⟨m, fr, S, at_, PIk.bind h fun d S1 m1 v H1 e g s r p => ?_⟩
  split at p
  · rename_i ds es
    simp only [RDs, RepL, Rep] at r
    obtain ⟨v1, r1, rfl, ⟨a, vs, rfl, hn, t, rr⟩, v2, r2, rfl, ⟨b, us, rfl, hn2, t2, rr2⟩, rfl⟩ := r
    have hl : (zipD ds es).length = min ds.length es.length := by unfold zipD; simp
    refine ⟨a, b, vs, us, rfl, .of t, .of t2, p m1 H1 _ (.refl _ _) s ⟨fun i m' H' S' g s' _ hi => ?_, fun m' H' S' g s' _ => ?_, fun i m' H' S' x H2 g s' _ hi hy => ?_⟩⟩
    · rw [hl] at hi
      have l1 := rr.length; have l2 := rr2.length
      exact ⟨vs, us, vs[i], us[i], .of (g.keep _ _ t hn.1), .of (g.keep _ _ t2 hn2.1), List.getElem?_eq_getElem (by omega), List.getElem?_eq_getElem (by omega)⟩
    · have l1 := rr.length; have l2 := rr2.length
      exact ⟨vs, us, .of (g.keep _ _ t hn.1), .of (g.keep _ _ t2 hn2.1), by rw [hl]; omega⟩
    · obtain ⟨T, x1, y1, rfl, hT, rfl, f1, f2⟩ := hy
      obtain ⟨d1, e1, r1⟩ := (rr.mono g).getV (f1 vs (SqL.of (g.keep _ _ t hn.1)))
      obtain ⟨d2, e2, r2⟩ := (rr2.mono g).getV (f2 us (SqL.of (g.keep _ _ t2 hn2.1)))
      refine ⟨.new hT, s'.new hT, .tup [d1, d2], ?_, .pair hT r1 r2⟩
      show (zipD ds es)[i]? = _
      unfold zipD
      rw [List.getElem?_map]
      have : (ds.zip es)[i]? = some (d1, d2) := by rw [List.getElem?_zip_eq_some]; exact ⟨e1, e2⟩
      rw [this]; rfl
  · exact p.elim
end
/-! ### for -/
open Classical in
noncomputable def loopF (it : Its) (g : MG) (body : MS) : List D → Fr → Sto → RS
  | [], fr, S => if okG it S then .nx fr S else .bad
  | d :: ds, fr, S => if okG it S then (match g d fr with
      | none => .bad
      | some fr1 => match body fr1 S with
        | .nx fr S => loopF it g body ds fr S
        | .cnt fr S => loopF it g body ds fr S
        | .brk fr S => .nx fr S
        | r => r) else .bad
noncomputable def sFor (fi : MI) (g : MG) (body : MS) : MS := fun fr S => (fi fr S).then fun it S => loopF it g body it.items fr S
theorem PIk.then {G : W3} {mg : Str → Option Value} {E : WX} {σ : L2.St} {m : Mp} {H : Hp} {Dn : Ends} {Q1 : L2.It → Hp → Prop} {r : Res Its} {k : Its → Sto → RS}
    (h : PSt G mg E m H Dn (r.then k)) (hq : ∀ it S1 m1 H1 J, r = .ok it S1 → Grow m H m1 H1 → Sim G H1 m1 S1 → WalkS G it m1 H1 J → PSt G mg E m1 H1 Dn (k it S1) → Q1 J H1) : PIk G mg E σ m H Q1 r := by
  cases r with
  | ok a S => exact fun m' H' J g' s' r' => hq a S m' H' J rfl g' s' r' (PSt.mono (r := k a S) g' h)
  | exc c S => exact fun m' H' C g' s' e' => h m' σ H' C g' s' e'
  | bad => exact h
section
variable {X : Cx} {E : WX} {tg : Expr}
theorem ss_for {iter : Expr} {body : List Stmt} {fi : MI} {g : MG} {sl : List Nat} {b : MS} {pos : Pos} (hp : PassesOwn (model X.prog X.w) X.A X.env X.xe) (hc : X.calm = true) (hi : SI X E tg iter fi) (hg : SG X sl tg g) (hb : SB X E body b)
    (hs : ∀ x, foldedSetIterable iter X.env x = pure x := by intro _; rfl) : SS X E (.For tg iter body [] pos) (sFor fi g b) := ps_imp (ps_for hp hc hi hg hb hs) fun Dn σ H h => by
  obtain ⟨m, fr, S, at_, h⟩ := h
  refine ⟨m, fr, S, at_, PIk.then h fun it S1 m1 H1 J e g1 s1 w p => ?_⟩
  refine ⟨fun i k σ' H' => i + k = it.items.length ∧ ∃ m' fr' S', Grow m1 H1 m' H' ∧ At (g3 X) H' m' σ' fr' S' ∧ PSt (g3 X) X.mg E m' H' Dn (loopF it g b (it.items.drop i) fr' S'),
    ⟨it.items.length, by omega, m1, fr, S1, .refl _ _, ⟨at_.f.mono g1, s1⟩, by simpa using p⟩, ?_⟩
  rintro i k σ' H' ⟨hik, m', fr', S', g', a', p'⟩
  by_cases hi : i < it.items.length
  · right
    rw [List.drop_eq_getElem_cons hi] at p'
    unfold loopF at p'
    by_cases ho : okG it S'
    · rw [if_pos ho] at p'
      refine ⟨w.go i m' H' S' g' a'.s ho hi, fun σ2 H2 => ∃ m2 fr2 S2, Grow m1 H1 m2 H2 ∧ At (g3 X) H2 m2 σ2 fr2 S2 ∧ PSt (g3 X) X.mg E m2 H2 Dn (loopF it g b (it.items.drop (i + 1)) fr2 S2), ?_, ?_⟩
      · rintro σ2 H2 ⟨m2, fr2, S2, x1, x2, x3⟩
        exact ⟨k - 1, by omega, by omega, m2, fr2, S2, x1, x2, x3⟩
      · intro x H2 hy
        obtain ⟨g2, s2, d, ed, rd⟩ := w.yld i m' H' S' x H2 g' a'.s ho hi hy
        have ed' : it.items[i] = d := by rw [List.getElem?_eq_getElem hi] at ed; exact Option.some.inj ed
        rw [ed'] at p'
        cases e1 : g d fr' with
        | none => simp only [e1] at p'; exact p'.elim
        | some fr1 =>
          simp only [e1] at p'
          refine ⟨m', fr', d, fr1, a'.f.mono g2, rd, e1, fun σ3 s3 _ _ => ⟨m', fr1, S', ⟨s3, s2⟩, ?_⟩⟩
          have gg := g'.trans g2
          have p2 := fun r => PSt.mono (G := g3 X) (mg := X.mg) (E := E) (Dn := Dn) (r := r) g2
          cases eb : b fr1 S' with
          | nx fr2 S2 =>
            simp only [eb] at p'
            exact fun m3 σ4 H3 g3' a3 => ⟨m3, fr2, S2, gg.trans g3', a3, (p2 _ p').mono g3'⟩
          | cnt fr2 S2 =>
            simp only [eb] at p'
            exact fun m3 σ4 H3 g3' a3 => ⟨m3, fr2, S2, gg.trans g3', a3, (p2 _ p').mono g3'⟩
          | brk fr2 S2 =>
            simp only [eb] at p'
            exact p2 _ p'
          | ret d2 S2 => simp only [eb] at p'; exact p2 (.ret d2 S2) p'
          | exc c S2 => simp only [eb] at p'; exact p2 (.exc c S2) p'
          | bad => simp only [eb] at p'; exact p'.elim
    · rw [if_neg ho] at p'; exact p'.elim
  · left
    have hil : i = it.items.length := by omega
    rw [hil, List.drop_length] at p'
    unfold loopF at p'
    by_cases ho : okG it S'
    · rw [if_pos ho] at p'
      rw [hil]
      exact ⟨w.stop m' H' S' g' a'.s ho, p' m' σ' H' (.refl _ _) a'⟩
    · rw [if_neg ho] at p'; exact p'.elim
end
/-! ### while -/
def whileF (c : MT) (body : MS) : Nat → Fr → Sto → RS
  | 0, _, _ => .bad
  | n + 1, fr, S => (c fr S).then fun b S => if b then (match body fr S with
      | .nx fr S => whileF c body n fr S
      | .cnt fr S => whileF c body n fr S
      | .brk fr S => .nx fr S
      | r => r) else .nx fr S
def sWhile (n : Nat) (c : MT) (body : MS) : MS := fun fr S => whileF c body n fr S
section
variable {X : Cx} {E : WX}
theorem ss_while {c : Expr} {body : List Stmt} {p : MT} {b : MS} {pos : Pos} (n : Nat) (hp : PassesOwn (model X.prog X.w) X.A X.env X.xe) (hc : ST X E c p) (hb : SB X E body b) : SS X E (.While c body [] pos) (sWhile n p b) :=
  ps_imp (ps_while hp hc hb) fun Dn σ H h => by
    obtain ⟨m, fr, S, at_, h⟩ := h
    refine ⟨fun k σ' H' => ∃ m' fr' S', At (g3 X) H' m' σ' fr' S' ∧ PSt (g3 X) X.mg E m' H' Dn (whileF p b k fr' S'), ⟨n, m, fr, S, at_, h⟩, ?_⟩
    rintro k σ' H' ⟨m', fr', S', a', p'⟩
    cases k with
    | zero => exact p'.elim
    | succ k =>
      refine ⟨m', fr', S', a', PSt.then p' fun x S1 m1 v H1 e g1 s1 r1 p1 => ?_⟩
      subst r1
      have a1 : At (g3 X) H1 m1 σ' fr' S1 := ⟨a'.f.mono g1, s1⟩
      cases v with
      | false => exact p1 m1 σ' H1 (.refl _ _) a1
      | true =>
        refine ⟨fun σ2 H2 => ∃ m2 fr2 S2, At (g3 X) H2 m2 σ2 fr2 S2 ∧ PSt (g3 X) X.mg E m2 H2 Dn (whileF p b k fr2 S2), ?_, m1, fr', S1, a1, ?_⟩
        · rintro σ2 H2 ⟨m2, fr2, S2, x1, x2⟩
          exact ⟨k, Nat.lt_succ_self _, m2, fr2, S2, x1, x2⟩
        · simp only [if_true] at p1
          cases eb : b fr' S1 with
          | nx fr2 S2 => simp only [eb] at p1; exact fun m3 σ4 H3 g3' a3 => ⟨m3, fr2, S2, a3, p1.mono g3'⟩
          | cnt fr2 S2 => simp only [eb] at p1; exact fun m3 σ4 H3 g3' a3 => ⟨m3, fr2, S2, a3, p1.mono g3'⟩
          | brk fr2 S2 => simp only [eb] at p1; exact p1
          | ret d2 S2 => simp only [eb] at p1; exact p1
          | exc c S2 => simp only [eb] at p1; exact p1
          | bad => simp only [eb] at p1; exact p1.elim
end
/-! ### list comprehensions -/
open Classical in
noncomputable def compL (it : Its) (g : MG) (c : MT) (e : ME) (fr : Fr) : List D → Sto → List D → Res (List D)
  | [], S, acc => if okG it S then .ok acc S else .bad
  | d :: ds, S, acc => if okG it S ∧ acc.length < sz then (match g d fr with
      | none => .bad
      | some fr1 => match c fr1 S with
        | .ok true S => (match e fr1 S with
          | .ok y S => compL it g c e fr ds S (acc ++ [y])
          | _ => .bad)
        | .ok false S => compL it g c e fr ds S acc
        | _ => .bad) else .bad
def wipeF (fr : Fr) : List Nat → Fr
  | [] => fr
  | v :: vs => (wipeF fr vs).set v none
/-- [e for t in i if c], by value -/
noncomputable def eComp (vs : List Nat) (fi : MI) (g : MG) (c : MT) (e : ME) : ME := fun fr S => (fi fr S).bind fun it S => (compL it g c e (wipeF fr vs) it.items S []).bind fun xs S => .ok (.lst xs) S
/-- .. to the store -/
noncomputable def eNewComp (vs : List Nat) (fi : MI) (g : MG) (c : MT) (e : ME) : ME := fun fr S => (fi fr S).bind fun it S => (compL it g c e (wipeF fr vs) it.items S []).bind fun xs S => .ok (.ref S.length) (S ++ [.lst xs])
def tTrue : MT := fun _ S => .ok true S
theorem SimF.wipe {K : PySem.W.Frag} {H : Hp} {m : Mp} {σ : L2.St} {fr : Fr} (s : SimF K H m σ fr) : ∀ vs : List Nat, SimF K H m (L2.wipe σ vs) (wipeF fr vs)
  | [] => s
  | v :: vs => (s.wipe vs).set' v
theorem wipe_get (σ : L2.St) (i : Nat) : ∀ vs : List Nat, (L2.wipe σ vs)[i]? = if i ∈ vs ∧ i < σ.length then some none else σ[i]?
  | [] => by simp [L2.wipe]
  | v :: vs => by
    show ((L2.wipe σ vs).set v none)[i]? = _
    by_cases hv : v = i
    · subst hv
      rw [List.getElem?_set]
      by_cases hl : v < σ.length
      · simp [wipe_length, hl]
      · simp [wipe_length, hl]
    · rw [List.getElem?_set_ne hv, wipe_get σ i vs]
      by_cases hi : i ∈ vs
      · simp [hi]
      · simp [hi, Ne.symm hv]
theorem wipe_eq {σ σ' : L2.St} {vs sl : List Nat} (hl : σ'.length = σ.length) (hs : ∀ i ∈ sl, i ∈ vs) (h : ∀ (i : Nat), i ∉ sl → σ'[i]? = (L2.wipe σ vs)[i]?) : L2.wipe σ' vs = L2.wipe σ vs := by
  apply List.ext_getElem?
  intro i
  rw [wipe_get σ' i vs, wipe_get σ i vs, hl]
  by_cases hi : i ∈ vs ∧ i < σ.length
  · rw [if_pos hi, if_pos hi]
  · rw [if_neg hi, if_neg hi]
    by_cases hv : i ∈ sl
    · have : ¬ i < σ.length := fun z => hi ⟨hs i hv, z⟩
      rw [List.getElem?_eq_none (by rw [hl]; exact Nat.le_of_not_lt this), List.getElem?_eq_none (Nat.le_of_not_lt this)]
    · rw [h i hv, wipe_get, if_neg hi]
/-! what is hidden changes: nothing that is told -/
section
variable {G : W3} {K : PySem.W.Frag} {H : Hp} {m : Mp} {p : Addr} {xs ys : List V}
mutual
theorem Rep.hidUpd (hp : p ∈ m.hid) (hH : H p = some (.lst xs)) : ∀ (d : D) (v : V), Rep K H m d v → Rep K (upd H p (.lst ys)) m d v
  | .non, v, h => by simpa only [Rep] using h
  | .bl b, v, h => by simpa only [Rep] using h
  | .int i, v, h => by simpa only [Rep] using h
  | .str x, v, h => by simpa only [Rep] using h
  | .tup ds, v, h => by
    simp only [Rep] at h ⊢
    obtain ⟨a, vs, e, t, r⟩ := h
    refine ⟨a, vs, e, ?_, RepL.hidUpd hp hH ds vs r⟩
    rcases t with t | t
    · exact .inl (by rw [upd_ne (ne_of t hH (by intro z; cases z))]; exact t)
    · exact .inr t
  | .lst ds, v, h => by
    simp only [Rep] at h ⊢
    obtain ⟨a, vs, e, hn, t, r⟩ := h
    have ha : a ≠ p := fun z => hn.2 (z ▸ hp)
    exact ⟨a, vs, e, hn, by rw [upd_ne ha]; exact t, RepL.hidUpd hp hH ds vs r⟩
  | .fz ds, v, h => by
    simp only [Rep] at h ⊢
    obtain ⟨a, vs, e, t, r⟩ := h
    refine ⟨a, vs, e, ?_, RepL.hidUpd hp hH ds vs r⟩
    rcases t with ⟨hn, o, t⟩ | t
    · exact .inl ⟨hn, o, by rw [upd_ne (ne_of t hH (by intro z; cases z))]; exact t⟩
    · exact .inr t
  | .ref n, v, h => by simpa only [Rep] using h
  | .adr a, v, h => by simpa only [Rep] using h
  | .ty n, v, h => by simpa only [Rep] using h
theorem RepL.hidUpd (hp : p ∈ m.hid) (hH : H p = some (.lst xs)) : ∀ (ds : List D) (vs : List V), RepL K H m ds vs → RepL K (upd H p (.lst ys)) m ds vs
  | [], vs, h => by simpa only [RepL] using h
  | d :: ds, vs, h => by
    simp only [RepL] at h ⊢
    obtain ⟨v, r, e, h1, h2⟩ := h
    exact ⟨v, r, e, Rep.hidUpd hp hH d v h1, RepL.hidUpd hp hH ds r h2⟩
end
theorem Sim.hidUpd {S : Sto} (s : Sim G H m S) (hp : p ∈ m.hid) (hH : H p = some (.lst xs)) : Sim G (upd H p (.lst ys)) m S := by
  refine ⟨s.len, s.nd, fun a ha => ⟨(s.hid a ha).1, ?_⟩, fun n a o h1 h2 => ?_⟩
  · by_cases e : a = p
    · subst e; rw [upd_same]; simp
    · rw [upd_ne e]; exact (s.hid a ha).2
  · have ha : a ≠ p := fun z => (s.hid p hp).1 (z ▸ List.mem_of_getElem? h1)
    have r := s.at_ n a o h1 h2
    cases o with
    | lst ds => obtain ⟨vs, e, r⟩ := r; exact ⟨vs, by rw [upd_ne ha]; exact e, r.hidUpd hp hH⟩
    | dS ds => obtain ⟨vs, e, r⟩ := r; exact ⟨vs, by rw [upd_ne ha]; exact e, r.hidUpd hp hH⟩
    | dP ds =>
      obtain ⟨xs, vs, e, k1, k2, r, k3⟩ := r
      refine ⟨xs, vs, by rw [upd_ne ha]; exact e, k1, k2, r.hidUpd hp hH, fun x hx => ?_⟩
      obtain ⟨hd, d, h1, h2⟩ := k3 x hx
      exact ⟨hd, d, h1, h2.hidUpd hp hH⟩
    | ins ds => obtain ⟨dx, vs, e, r⟩ := r; exact ⟨dx, vs, by rw [upd_ne ha]; exact e, r.hidUpd hp hH⟩
end
/-! fewer things are hidden -/
section
variable {G : W3} {K : PySem.W.Frag} {H : Hp} {m m' : Mp}
mutual
theorem Rep.sub (h1 : m'.at_ = m.at_) (h2 : ∀ a ∈ m'.hid, a ∈ m.hid) : ∀ (d : D) (v : V), Rep K H m d v → Rep K H m' d v
  | .non, v, h => by simpa only [Rep] using h
  | .bl b, v, h => by simpa only [Rep] using h
  | .int i, v, h => by simpa only [Rep] using h
  | .str x, v, h => by simpa only [Rep] using h
  | .tup ds, v, h => by
    simp only [Rep] at h ⊢
    obtain ⟨a, vs, e, t, r⟩ := h
    exact ⟨a, vs, e, t, RepL.sub h1 h2 ds vs r⟩
  | .lst ds, v, h => by
    simp only [Rep] at h ⊢
    obtain ⟨a, vs, e, hn, t, r⟩ := h
    exact ⟨a, vs, e, ⟨by rw [h1]; exact hn.1, fun z => hn.2 (h2 a z)⟩, t, RepL.sub h1 h2 ds vs r⟩
  | .fz ds, v, h => by
    simp only [Rep] at h ⊢
    obtain ⟨a, vs, e, t, r⟩ := h
    refine ⟨a, vs, e, ?_, RepL.sub h1 h2 ds vs r⟩
    rcases t with ⟨hn, t⟩ | t
    · exact .inl ⟨by rw [h1]; exact hn, t⟩
    · exact .inr t
  | .ref n, v, h => by simp only [Rep, h1] at h ⊢; exact h
  | .adr a, v, h => by simpa only [Rep] using h
  | .ty n, v, h => by simpa only [Rep] using h
theorem RepL.sub (h1 : m'.at_ = m.at_) (h2 : ∀ a ∈ m'.hid, a ∈ m.hid) : ∀ (ds : List D) (vs : List V), RepL K H m ds vs → RepL K H m' ds vs
  | [], vs, h => by simpa only [RepL] using h
  | d :: ds, vs, h => by
    simp only [RepL] at h ⊢
    obtain ⟨v, r, e, k1, k2⟩ := h
    exact ⟨v, r, e, Rep.sub h1 h2 d v k1, RepL.sub h1 h2 ds r k2⟩
end
theorem Sim.sub {S : Sto} (s : Sim G H m S) (h1 : m'.at_ = m.at_) (h2 : ∀ a ∈ m'.hid, a ∈ m.hid) : Sim G H m' S := by
  refine ⟨by rw [h1]; exact s.len, by rw [h1]; exact s.nd, fun a ha => by rw [h1]; exact s.hid a (h2 a ha), fun n a o e1 e2 => ?_⟩
  rw [h1] at e1
  have r := s.at_ n a o e1 e2
  cases o with
  | lst ds => obtain ⟨vs, e, r⟩ := r; exact ⟨vs, e, r.sub h1 h2⟩
  | dS ds => obtain ⟨vs, e, r⟩ := r; exact ⟨vs, e, r.sub h1 h2⟩
  | dP ds =>
    obtain ⟨xs, vs, e, k1, k2, r, k3⟩ := r
    refine ⟨xs, vs, e, k1, k2, r.sub h1 h2, fun x hx => ?_⟩
    obtain ⟨hd, d, q1, q2⟩ := k3 x hx
    exact ⟨hd, d, q1, q2.sub h1 h2⟩
  | ins ds => obtain ⟨dx, vs, e, r⟩ := r; exact ⟨dx, vs, e, r.sub h1 h2⟩
end
/-- the list of a comprehension is hidden while it grows -/
theorem Grow.hide {m : Mp} {H : Hp} {p : Addr} {o : HO} (h : H p = none) : Grow m H ⟨m.at_, p :: m.hid⟩ (upd H p o) :=
  ⟨⟨[], by simp, by simp⟩, ⟨[p], rfl, fun a ha => by rw [List.mem_singleton] at ha; rw [ha]; exact h⟩, (Grow.new (m := m) h).keep, (Grow.new (m := m) h).tups, (Grow.new (m := m) h).live⟩
theorem Sim.hide {G : W3} {H : Hp} {m : Mp} {S : Sto} (s : Sim G H m S) {p : Addr} {o : HO} (hp : H p = none) : Sim G (upd H p o) ⟨m.at_, p :: m.hid⟩ S := by
  refine ⟨s.len, s.nd, fun a ha => ?_, fun n a o' h1 h2 => RepO.mono (.hide hp) (fun u e => by rw [upd_ne (ne_of_none e hp)]; exact e) (s.at_ n a o' h1 h2)⟩
  rcases List.mem_cons.1 ha with rfl | ha
  · exact ⟨(s.notm hp).1, by rw [upd_same]; simp⟩
  · exact ⟨(s.hid a ha).1, (Grow.new (m := m) hp).live a (s.hid a ha).2⟩
theorem Grow.updHid {m1 m : Mp} {H1 H : Hp} {p : Addr} {xs ys : List V} (g : Grow m1 H1 m H) (hp : H1 p = none) (hH : H p = some (.lst xs)) : Grow m1 H1 m (upd H p (.lst ys)) :=
  ⟨g.pre, g.hid, fun a o e hn => by rw [upd_ne (ne_of_none e hp)]; exact g.keep a o e hn, fun a xs e => by rw [upd_ne (ne_of_none e hp)]; exact g.tups a xs e,
    fun a e => by
      by_cases z : a = p
      · subst z; rw [upd_same]; simp
      · rw [upd_ne z]; exact g.live a e⟩
section
variable {G : W3} {K : PySem.W.Frag} {H : Hp} {m m' : Mp} {p : Addr}
mutual
theorem Rep.toStore (hp : p ∈ m.hid) (hq : ∃ ws, H p = some (.lst ws)) (h1 : m'.at_ = m.at_ ++ [p]) (h2 : ∀ a ∈ m'.hid, a ∈ m.hid) : ∀ (d : D) (v : V), Rep K H m d v → Rep K H m' d v
  | .non, v, h => by simpa only [Rep] using h
  | .bl b, v, h => by simpa only [Rep] using h
  | .int i, v, h => by simpa only [Rep] using h
  | .str x, v, h => by simpa only [Rep] using h
  | .tup ds, v, h => by
    simp only [Rep] at h ⊢
    obtain ⟨a, vs, e, t, r⟩ := h
    exact ⟨a, vs, e, t, RepL.toStore hp hq h1 h2 ds vs r⟩
  | .lst ds, v, h => by
    simp only [Rep] at h ⊢
    obtain ⟨a, vs, e, hn, t, r⟩ := h
    refine ⟨a, vs, e, ⟨?_, fun z => hn.2 (h2 a z)⟩, t, RepL.toStore hp hq h1 h2 ds vs r⟩
    rw [h1, List.mem_append, List.mem_singleton]
    rintro (z | rfl)
    · exact hn.1 z
    · exact hn.2 hp
  | .fz ds, v, h => by
    simp only [Rep] at h ⊢
    obtain ⟨a, vs, e, t, r⟩ := h
    refine ⟨a, vs, e, ?_, RepL.toStore hp hq h1 h2 ds vs r⟩
    rcases t with ⟨hn, o, t⟩ | t
    · refine .inl ⟨?_, o, t⟩
      rw [h1, List.mem_append, List.mem_singleton]
      rintro (z | rfl)
      · exact hn z
      · obtain ⟨ws, q⟩ := hq
        rw [q] at t; cases t
    · exact .inr t
  | .ref n, v, h => by
    simp only [Rep] at h ⊢
    obtain ⟨a, e, q⟩ := h
    refine ⟨a, e, ?_⟩
    rw [h1, List.getElem?_append_left (List.getElem?_eq_some_iff.1 q).1]
    exact q
  | .adr a, v, h => by simpa only [Rep] using h
  | .ty n, v, h => by simpa only [Rep] using h
theorem RepL.toStore (hp : p ∈ m.hid) (hq : ∃ ws, H p = some (.lst ws)) (h1 : m'.at_ = m.at_ ++ [p]) (h2 : ∀ a ∈ m'.hid, a ∈ m.hid) : ∀ (ds : List D) (vs : List V), RepL K H m ds vs → RepL K H m' ds vs
  | [], vs, h => by simpa only [RepL] using h
  | d :: ds, vs, h => by
    simp only [RepL] at h ⊢
    obtain ⟨v, r, e, k1, k2⟩ := h
    exact ⟨v, r, e, Rep.toStore hp hq h1 h2 d v k1, RepL.toStore hp hq h1 h2 ds r k2⟩
end
theorem RepO.toStore (hp : p ∈ m.hid) (hq : ∃ ws, H p = some (.lst ws)) (h1 : m'.at_ = m.at_ ++ [p]) (h2 : ∀ a ∈ m'.hid, a ∈ m.hid) {a : Addr} {o : O} (r : RepO G H m a o) : RepO G H m' a o := by
  cases o with
  | lst ds => obtain ⟨vs, e, r⟩ := r; exact ⟨vs, e, r.toStore hp hq h1 h2⟩
  | dS ds => obtain ⟨vs, e, r⟩ := r; exact ⟨vs, e, r.toStore hp hq h1 h2⟩
  | dP ds =>
    obtain ⟨xs, vs, e, k1, k2, r, k3⟩ := r
    refine ⟨xs, vs, e, k1, k2, r.toStore hp hq h1 h2, fun x hx => ?_⟩
    obtain ⟨hd, d, q1, q2⟩ := k3 x hx
    exact ⟨hd, d, q1, q2.toStore hp hq h1 h2⟩
  | ins ds => obtain ⟨dx, vs, e, r⟩ := r; exact ⟨dx, vs, e, r.toStore hp hq h1 h2⟩
end
theorem Sim.toStore {G : W3} {H : Hp} {m2 m1 : Mp} {S : Sto} {p : Addr} {xs : List D} {ws : List V} (s : Sim G H m2 S) (hp : p ∈ m2.hid) (hsub : ∀ a ∈ m1.hid, a ∈ m2.hid) (hn : p ∉ m1.hid) (hH : H p = some (.lst ws)) (r : RepL G.K H m2 xs ws) :
    Sim G H ⟨m2.at_ ++ [p], m1.hid⟩ (S ++ [.lst xs]) := by
  have hpa := (s.hid p hp).1
  refine ⟨by simp [s.len], ?_, fun a ha => ⟨fun hm => ?_, (s.hid a (hsub a ha)).2⟩, fun n a o e1 e2 => ?_⟩
  · show (m2.at_ ++ [p]).Nodup
    rw [List.nodup_append]
    exact ⟨s.nd, by simp, fun a ha b hb => by rw [List.mem_singleton] at hb; subst hb; exact fun e => hpa (e ▸ ha)⟩
  · rcases List.mem_append.1 hm with h | h
    · exact (s.hid a (hsub a ha)).1 h
    · rw [List.mem_singleton.1 h] at ha; exact hn ha
  · have e1 : (m2.at_ ++ [p])[n]? = some a := e1
    by_cases hl : n < m2.at_.length
    · rw [List.getElem?_append_left hl] at e1
      rw [List.getElem?_append_left (s.len ▸ hl)] at e2
      exact (s.at_ n a o e1 e2).toStore (m' := ⟨m2.at_ ++ [p], m1.hid⟩) hp ⟨ws, hH⟩ rfl hsub
    · rw [List.getElem?_append_right (by omega)] at e1
      have hn' : n = m2.at_.length := by
        have := (List.getElem?_eq_some_iff.1 e1).1
        simp at this; omega
      subst hn'
      rw [List.getElem?_append_right (by rw [s.len]; omega)] at e2
      simp at e1
      rw [show m2.at_.length - S.length = 0 by rw [s.len]; omega] at e2
      simp at e2
      subst e1; subst e2
      exact ⟨ws, hH, RepL.toStore (m' := ⟨m2.at_ ++ [p], m1.hid⟩) hp ⟨ws, hH⟩ rfl hsub _ _ r⟩
abbrev EF : WX := fun _ _ _ _ => False
section
variable {X : Cx} {E : WX} {tg : Expr}
/-- what a clause's test is -/
def STs (X : Cx) (E : WX) (ifs : List Expr) (f : MT) : Prop := PTs X ifs (tT (g3 X) X.mg E f)
theorem pts_imp {X : Cx} {e : List Expr} {t t' : TT} (h : PTs X e t) (w : ∀ σ H Q, t' σ H Q → t σ H Q) : PTs X e t' := ⟨fun pins s σ H Q I q => h.run pins s σ H Q I (w σ H Q q)⟩
theorem sts_nil : STs X E [] tTrue := pts_imp pts_nil fun σ H Q h => by
  obtain ⟨m, fr, S, at_, h⟩ := h
  exact h m true H (.refl _ _) at_.s rfl
theorem sts_one {c : Expr} {f : MT} (h : ST X E c f) : STs X E [c] f := pts_one h
theorem comp_of {fi : MI} {g : MG} {c : MT} {e : ME} {sl vs : List Nat} (hsl : ∀ i ∈ sl, i ∈ vs) {σ : L2.St} {H : Hp} {Q : VK} {f : List D → Sto → Res D} {m0 : Mp} {fr : Fr} {S0 : Sto} (a0 : At (g3 X) H m0 σ fr S0)
    (h : POk (RD (g3 X)) (g3 X) X.mg E σ m0 H Q ((fi fr S0).bind fun it S => (compL it g c e (wipeF fr vs) it.items S []).bind f))
    (hf : ∀ (m1 : Mp) (H1 : Hp) xs S2 m2 H2 Dl ws, H1 Dl = none → Dl ∉ m1.hid → Grow m1 H1 m2 H2 → Dl ∈ m2.hid → (∀ a ∈ m1.hid, a ∈ m2.hid) → Sim (g3 X) H2 m2 S2 → H2 Dl = some (.lst ws) → RepL X.K H2 m2 xs ws → POk (RD (g3 X)) (g3 X) X.mg E σ m1 H1 Q (f xs S2) → Q (.ref Dl) H2) :
    tLc (tI (g3 X) X.mg E fi) (tG (g3 X) sl g) (tT (g3 X) X.mg EF c) (tE (g3 X) X.mg EF e) vs σ H Q := by
  refine ⟨m0, fr, S0, a0, ?_⟩
  cases e0 : fi fr S0 with
  | bad => rw [e0] at h; exact h
  | exc k S => rw [e0] at h; exact h
  | ok it S1 =>
    rw [e0] at h
    intro m1 H1 J g1 s1 w Dl hDl
    have h := POk.mono g1 h
    have f1 : SimF X.K H1 m1 σ fr := a0.f.mono g1
    refine ⟨fun i k H' => i + k = it.items.length ∧ ∃ m' S' acc ws, Grow m1 H1 m' H' ∧ Dl ∈ m'.hid ∧ Sim (g3 X) H' m' S' ∧ H' Dl = some (.lst ws) ∧ RepL X.K H' m' acc ws ∧
      POk (RD (g3 X)) (g3 X) X.mg E σ m1 H1 Q ((compL it g c e (wipeF fr vs) (it.items.drop i) S' acc).bind f), ⟨it.items.length, by omega, ⟨m1.at_, Dl :: m1.hid⟩, S1, [], [], .hide hDl, by simp, s1.hide hDl, upd_same, .nil, by simpa using h⟩, ?_⟩
    rintro i k H' ⟨hik, m', S', acc, ws, g', hD', s', hH', r', p'⟩
    have hsub : ∀ a ∈ m1.hid, a ∈ m'.hid := fun a ha => by
      obtain ⟨hx, q, _⟩ := g'.hid
      rw [q]; exact List.mem_append_right _ ha
    by_cases hi : i < it.items.length
    · right
      rw [List.drop_eq_getElem_cons hi] at p'
      unfold compL at p'
      by_cases ho : okG it S' ∧ acc.length < sz
      · rw [if_pos ho] at p'
        refine ⟨w.go i m' H' S' g' s' ho.1 hi, fun H3 => ∃ m3 S3 acc3 ws3, Grow m1 H1 m3 H3 ∧ Dl ∈ m3.hid ∧ Sim (g3 X) H3 m3 S3 ∧ H3 Dl = some (.lst ws3) ∧ RepL X.K H3 m3 acc3 ws3 ∧
          POk (RD (g3 X)) (g3 X) X.mg E σ m1 H1 Q ((compL it g c e (wipeF fr vs) (it.items.drop (i + 1)) S3 acc3).bind f), ?_, ?_⟩
        · rintro H3 ⟨m3, S3, acc3, ws3, q⟩
          exact ⟨k - 1, by omega, by omega, m3, S3, acc3, ws3, q⟩
        · intro x H2 hy
          obtain ⟨g2, s2, d, ed, rd⟩ := w.yld i m' H' S' x H2 g' s' ho.1 hi hy
          have ed' : it.items[i] = d := by rw [List.getElem?_eq_getElem hi] at ed; exact Option.some.inj ed
          rw [ed'] at p'
          have hDm : Dl ∉ m'.at_ := (s'.hid Dl hD').1
          have hH2 : H2 Dl = some (.lst ws) := g2.keep _ _ hH' hDm
          have r2 : RepL X.K H2 m' acc ws := r'.mono g2
          have gg := g'.trans g2
          have f2 : SimF X.K H2 m' (L2.wipe σ vs) (wipeF fr vs) := (f1.mono gg).wipe vs
          cases e1 : g d (wipeF fr vs) with
          | none => simp only [e1] at p'; exact p'.elim
          | some fr1 =>
            simp only [e1] at p'
            refine ⟨m', wipeF fr vs, d, fr1, f2, rd, e1, fun σ3 s3 l3 k3 => ⟨wipe_eq (by rw [l3, wipe_length]) hsl k3, m', fr1, S', ⟨s3, s2⟩, ?_⟩⟩
            cases ec : c fr1 S' with
            | bad => simp only [ec] at p'; exact p'.elim
            | exc cc S4 => simp only [ec] at p'; exact p'.elim
            | ok b S4 =>
              intro m4 b' H4 g4 s4 eb
              subst eb
              have gg4 := gg.trans g4
              have hD4 : Dl ∈ m4.hid := by
                obtain ⟨hx, q, _⟩ := g4.hid
                rw [q]; exact List.mem_append_right _ hD'
              have hH4 : H4 Dl = some (.lst ws) := g4.keep _ _ hH2 hDm
              have r4 : RepL X.K H4 m4 acc ws := r2.mono g4
              cases b' with
              | false =>
                simp only [ec] at p'
                exact ⟨m4, S4, acc, ws, gg4, hD4, s4, hH4, r4, p'⟩
              | true =>
                simp only [ec] at p'
                refine ⟨m4, fr1, S4, ⟨s3.mono g4, s4⟩, ?_⟩
                cases ee : e fr1 S4 with
                | bad => simp only [ee] at p'; exact p'.elim
                | exc cc S5 => simp only [ee] at p'; exact p'.elim
                | ok y S5 =>
                  simp only [ee] at p'
                  intro m5 v5 H5 g5 s5 ry
                  have hDm4 : Dl ∉ m4.at_ := (s4.hid Dl hD4).1
                  have hH5 : H5 Dl = some (.lst ws) := g5.keep _ _ hH4 hDm4
                  have hD5 : Dl ∈ m5.hid := by
                    obtain ⟨hx, q, _⟩ := g5.hid
                    rw [q]; exact List.mem_append_right _ hD4
                  refine ⟨ws, hH5, by rw [r4.length]; exact sz_lt ho.2, m5, S5, acc ++ [y], ws ++ [v5], (gg4.trans g5).updHid hDl hH5, hD5, s5.hidUpd hD5 hH5, upd_same, ?_, p'⟩
                  exact RepL.append ((r4.mono g5).hidUpd hD5 hH5) (.one (ry.hidUpd hD5 hH5))
      · rw [if_neg ho] at p'; exact p'.elim
    · left
      have hil : i = it.items.length := by omega
      rw [hil, List.drop_length] at p'
      unfold compL at p'
      by_cases ho : okG it S'
      · rw [if_pos ho] at p'
        rw [hil]
        exact ⟨w.stop m' H' S' g' s' ho, hf m1 H1 acc S' m' H' Dl ws hDl (s1.notm hDl).2 g' hD' hsub s' hH' r' p'⟩
      · rw [if_neg ho] at p'; exact p'.elim
theorem Grow.unhide {m1 m2 : Mp} {H1 H2 : Hp} (g : Grow m1 H1 m2 H2) : Grow m1 H1 ⟨m2.at_, m1.hid⟩ H2 := ⟨g.pre, ⟨[], by simp, by simp⟩, g.keep, g.tups, g.live⟩
theorem comp_val {fi : MI} {g : MG} {c : MT} {e : ME} {sl vs : List Nat} (hsl : ∀ i ∈ sl, i ∈ vs) {σ : L2.St} {H : Hp} {Q : VK} (h : tE (g3 X) X.mg E (eComp vs fi g c e) σ H Q) :
    tLc (tI (g3 X) X.mg E fi) (tG (g3 X) sl g) (tT (g3 X) X.mg EF c) (tE (g3 X) X.mg EF e) vs σ H Q := by
  obtain ⟨m, fr, S, at_, h⟩ := h
  refine comp_of hsl at_ h fun m1 H1 xs S2 m2 H2 Dl ws hDl hn1 g hD hsub s hH r p => ?_
  refine p ⟨m2.at_, m1.hid⟩ (.ref Dl) H2 g.unhide (s.sub rfl hsub) ?_
  simp only [RD, Rep]
  exact ⟨Dl, ws, rfl, ⟨(s.hid Dl hD).1, hn1⟩, hH, RepL.sub (m := m2) (m' := ⟨m2.at_, m1.hid⟩) rfl hsub _ _ r⟩
/-! a hidden list goes to the store -/
theorem comp_new {fi : MI} {g : MG} {c : MT} {e : ME} {sl vs : List Nat} (hsl : ∀ i ∈ sl, i ∈ vs) {σ : L2.St} {H : Hp} {Q : VK} (h : tE (g3 X) X.mg E (eNewComp vs fi g c e) σ H Q) :
    tLc (tI (g3 X) X.mg E fi) (tG (g3 X) sl g) (tT (g3 X) X.mg EF c) (tE (g3 X) X.mg EF e) vs σ H Q := by
  obtain ⟨m, fr, S, at_, h⟩ := h
  refine comp_of hsl at_ h fun m1 H1 xs S2 m2 H2 Dl ws hDl hn1 g hD hsub s hH r p => ?_
  have m3h : ∀ a ∈ (⟨m2.at_ ++ [Dl], m1.hid⟩ : Mp).hid, a ∈ m2.hid := hsub
  have hDa := (s.hid Dl hD).1
  obtain ⟨ex, q, fx⟩ := g.pre
  have g2 : Grow m1 H1 ⟨m2.at_ ++ [Dl], m1.hid⟩ H2 := ⟨⟨ex ++ [Dl], by rw [q]; simp, fun a ha => by
    rcases List.mem_append.1 ha with z | z
    · exact fx a z
    · rw [List.mem_singleton.1 z]; exact hDl⟩, ⟨[], by simp, by simp⟩, g.keep, g.tups, g.live⟩
  refine p ⟨m2.at_ ++ [Dl], m1.hid⟩ (.ref Dl) H2 g2 (Sim.toStore s hD hsub hn1 hH r) ?_
  simp only [RD, Rep]
  exact ⟨Dl, rfl, by rw [List.getElem?_append_right (by rw [s.len]; omega)]; simp [s.len]⟩
/-- as a value -/
theorem se_lc {elt iter : Expr} {ifs : List Expr} {scope : Scope} {own : List (Str × Nat)} {pos : Pos} {fi : MI} {g : MG} {sl : List Nat} {c : MT} {e : ME} (hc : X.calm = true) (hN : X.N.Nodup) (hi : SI X E tg iter fi) (ok : BlkOk X.N X.env.scope scope own) (hsl : ∀ i ∈ sl, i ∈ own.map (·.2))
    (hg : ∀ (s : Shared) (H : Hp) (C : Addr) (cl : List (Str × Addr)) (fp : List Addr), SG (X.blk s H scope (compEnvC scope cl C X.env) fp) sl tg g) (ht : ∀ (s : Shared) (H : Hp) (C : Addr) (cl : List (Str × Addr)) (fp : List Addr), STs (X.blk s H scope (compEnvC scope cl C X.env) fp) EF ifs c)
    (he : ∀ (s : Shared) (H : Hp) (C : Addr) (cl : List (Str × Addr)) (fp : List Addr), SE (X.blk s H scope (compEnvC scope cl C X.env) fp) EF elt e) (hs : ∀ x, foldedSetIterable iter X.env x = pure x := by intro _; rfl) :
    SE X E (.ListComp elt [⟨tg, iter, ifs, 0⟩] scope pos) (eComp (own.map (·.2)) fi g c e) := pe_imp (pe_lc (g := tG (g3 X) sl g) (tt := tT (g3 X) X.mg EF c) (te := tE (g3 X) X.mg EF e) hc hN hi ok hg ht he hs) fun σ H Q h => comp_val hsl h
theorem se_lcNew {elt iter : Expr} {ifs : List Expr} {scope : Scope} {own : List (Str × Nat)} {pos : Pos} {fi : MI} {g : MG} {sl : List Nat} {c : MT} {e : ME} (hc : X.calm = true) (hN : X.N.Nodup) (hi : SI X E tg iter fi) (ok : BlkOk X.N X.env.scope scope own) (hsl : ∀ i ∈ sl, i ∈ own.map (·.2))
    (hg : ∀ (s : Shared) (H : Hp) (C : Addr) (cl : List (Str × Addr)) (fp : List Addr), SG (X.blk s H scope (compEnvC scope cl C X.env) fp) sl tg g) (ht : ∀ (s : Shared) (H : Hp) (C : Addr) (cl : List (Str × Addr)) (fp : List Addr), STs (X.blk s H scope (compEnvC scope cl C X.env) fp) EF ifs c)
    (he : ∀ (s : Shared) (H : Hp) (C : Addr) (cl : List (Str × Addr)) (fp : List Addr), SE (X.blk s H scope (compEnvC scope cl C X.env) fp) EF elt e) (hs : ∀ x, foldedSetIterable iter X.env x = pure x := by intro _; rfl) :
    SE X E (.ListComp elt [⟨tg, iter, ifs, 0⟩] scope pos) (eNewComp (own.map (·.2)) fi g c e) := pe_imp (pe_lc (g := tG (g3 X) sl g) (tt := tT (g3 X) X.mg EF c) (te := tE (g3 X) X.mg EF e) hc hN hi ok hg ht he hs) fun σ H Q h => comp_new hsl h
/-- name = [..] on one line -/
theorem asg_of {f : ME} {t : TE} {i : Nat} (ht : ∀ σ H Q, tE (g3 X) X.mg E f σ H Q → t σ H Q) {Dn : Ends} {σ : L2.St} {H : Hp} (h : tS (g3 X) X.mg E (sSet i f) Dn σ H) : tAsg t (gName i) Dn σ H := by
  obtain ⟨m, fr, S, at_, h⟩ := h
  refine ht σ H _ ⟨m, fr, S, at_, PSt.then h fun x S1 m1 v H1 e g s r p => ?_⟩
  exact p m1 _ H1 (.refl _ _) ⟨(at_.f.mono g).set i r, s⟩
theorem ss_setLc {i : Nat} {y : Str} {py : Pos} {elt iter : Expr} {ifs : List Expr} {scope : Scope} {own : List (Str × Nat)} {pos spos : Pos} {fi : MI} {g : MG} {sl : List Nat} {c : MT} {e : ME} (hc : X.calm = true) (hN : X.N.Nodup) (hy : X.N[i]? = some y) (hyl : X.env.scope.names.lookup y = some .local)
    (hsw : swapsWith (.ListComp elt [⟨tg, iter, ifs, 0⟩] scope pos) (some (.Name y py)) spos.line X.env = pure true) (hi : SI X E tg iter fi) (ok : BlkOk X.N X.env.scope scope own) (hsl : ∀ i ∈ sl, i ∈ own.map (·.2))
    (hg : ∀ (s : Shared) (H : Hp) (C : Addr) (cl : List (Str × Addr)) (fp : List Addr), SG (X.blk s H scope (compEnvC scope cl C X.env) fp) sl tg g) (ht : ∀ (s : Shared) (H : Hp) (C : Addr) (cl : List (Str × Addr)) (fp : List Addr), STs (X.blk s H scope (compEnvC scope cl C X.env) fp) EF ifs c)
    (he : ∀ (s : Shared) (H : Hp) (C : Addr) (cl : List (Str × Addr)) (fp : List Addr), SE (X.blk s H scope (compEnvC scope cl C X.env) fp) EF elt e) (hs : ∀ x, foldedSetIterable iter X.env x = pure x := by intro _; rfl) :
    SS X E (.Assign [.Name y py] (.ListComp elt [⟨tg, iter, ifs, 0⟩] scope pos) spos) (sSet i (eComp (own.map (·.2)) fi g c e)) :=
  ps_imp (ps_setLc (g := tG (g3 X) sl g) (tt := tT (g3 X) X.mg EF c) (te := tE (g3 X) X.mg EF e) hc hN hy hyl hsw hi ok hg ht he hs) fun Dn σ H h => asg_of (fun _ _ _ h => comp_val hsl h) h
theorem ss_setLcNew {i : Nat} {y : Str} {py : Pos} {elt iter : Expr} {ifs : List Expr} {scope : Scope} {own : List (Str × Nat)} {pos spos : Pos} {fi : MI} {g : MG} {sl : List Nat} {c : MT} {e : ME} (hc : X.calm = true) (hN : X.N.Nodup) (hy : X.N[i]? = some y) (hyl : X.env.scope.names.lookup y = some .local)
    (hsw : swapsWith (.ListComp elt [⟨tg, iter, ifs, 0⟩] scope pos) (some (.Name y py)) spos.line X.env = pure true) (hi : SI X E tg iter fi) (ok : BlkOk X.N X.env.scope scope own) (hsl : ∀ i ∈ sl, i ∈ own.map (·.2))
    (hg : ∀ (s : Shared) (H : Hp) (C : Addr) (cl : List (Str × Addr)) (fp : List Addr), SG (X.blk s H scope (compEnvC scope cl C X.env) fp) sl tg g) (ht : ∀ (s : Shared) (H : Hp) (C : Addr) (cl : List (Str × Addr)) (fp : List Addr), STs (X.blk s H scope (compEnvC scope cl C X.env) fp) EF ifs c)
    (he : ∀ (s : Shared) (H : Hp) (C : Addr) (cl : List (Str × Addr)) (fp : List Addr), SE (X.blk s H scope (compEnvC scope cl C X.env) fp) EF elt e) (hs : ∀ x, foldedSetIterable iter X.env x = pure x := by intro _; rfl) :
    SS X E (.Assign [.Name y py] (.ListComp elt [⟨tg, iter, ifs, 0⟩] scope pos) spos) (sSet i (eNewComp (own.map (·.2)) fi g c e)) :=
  ps_imp (ps_setLc (g := tG (g3 X) sl g) (tt := tT (g3 X) X.mg EF c) (te := tE (g3 X) X.mg EF e) hc hN hy hyl hsw hi ok hg ht he hs) fun Dn σ H h => asg_of (fun _ _ _ h => comp_new hsl h) h
end
end Py
set_option maxRecDepth 100000
set_option maxHeartbeats 1000000
namespace Py
open PySem PySem.Spec PyProof.Rows L2

/-! ### sequences -/
def lstOf (S : Sto) : D → Option (List D)
  | .lst ds => some ds
  | .ref n => (match S[n]? with | some (.lst ds) => some ds | _ => none)
  | _ => none
theorem lst_at {G : W3} {H : Hp} {m : Mp} {S : Sto} {d : D} {v : V} {ds : List D} (s : Sim G H m S) (r : Rep G.K H m d v) (e : lstOf S d = some ds) : ∃ a vs, v = .ref a ∧ H a = some (.lst vs) ∧ RepL G.K H m ds vs := by
  cases d with
  | lst xs =>
    cases e
    simp only [Rep] at r
    obtain ⟨a, vs, ev, hn, t, r⟩ := r
    exact ⟨a, vs, ev, t, r⟩
  | ref n =>
    simp only [lstOf] at e
    split at e
    · rename_i xs hS
      cases e
      simp only [Rep] at r
      obtain ⟨a, ev, ha⟩ := r
      obtain ⟨vs, h1, r1⟩ := s.lst ha hS
      exact ⟨a, vs, ev, h1, r1⟩
    · cases e
  | _ => cases e
/-- a list (locked ones too) or a tuple -/
def seqOf (S : Sto) : D → Option (List D)
  | .tup ds => some ds
  | .fz ds => some ds
  | d => lstOf S d
theorem seq_at {G : W3} {H : Hp} {m : Mp} {S : Sto} {d : D} {v : V} {ds : List D} (s : Sim G H m S) (r : Rep G.K H m d v) (e : seqOf S d = some ds) : ∃ a vs, v = .ref a ∧ (SqL G.K H a vs ∨ SqT G.K H a vs) ∧ RepL G.K H m ds vs := by
  by_cases h : lstOf S d = some ds
  · obtain ⟨a, vs, e1, e2, r⟩ := lst_at s r h
    exact ⟨a, vs, e1, .inl (.of e2), r⟩
  · cases d with
    | tup xs =>
      cases e
      simp only [Rep] at r
      obtain ⟨a, vs, ev, t, r⟩ := r
      exact ⟨a, vs, ev, .inr t.sq, r⟩
    | fz xs =>
      cases e
      simp only [Rep] at r
      obtain ⟨a, vs, ev, t, r⟩ := r
      exact ⟨a, vs, ev, .inl t.sq, r⟩
    | lst xs => exact absurd e h
    | ref n => exact absurd e h
    | _ => cases e
theorem RepL.atI {K : PySem.W.Frag} {H : Hp} {m : Mp} {ds : List D} {vs : List V} {i : Int} {d : D} (r : RepL K H m ds vs) (h : L2.atI ds i = some d) : ∃ v, L2.atI vs i = some v ∧ Rep K H m d v := by
  unfold L2.atI at h ⊢
  rw [r.length]
  cases e : ixN ds.length i with
  | none => rw [e] at h; cases h
  | some j =>
    rw [e] at h
    obtain ⟨v, e1, r1⟩ := r.get (show ds[j]? = some d from h)
    exact ⟨v, e1, r1⟩
/-! ### + -/
def addL (xs ys : Option (List D)) (S : Sto) : Res D := match xs, ys with
  | some xs, some ys => if xs.length + ys.length ≤ sz then .ok (.lst (xs ++ ys)) S else .bad
  | _, _ => .bad
def addD : D → D → Sto → Res D
  | .int i, .int j, S => .ok (.int (i + j)) S
  | .str a, .str b, S => if a.length + b.length ≤ sz then .ok (.str (a ++ b)) S else .bad
  | .tup xs, .tup ys, S => if xs.length + ys.length ≤ sz then .ok (.tup (xs ++ ys)) S else .bad
  | .lst xs, y, S => addL (some xs) (lstOf S y) S
  | .ref n, y, S => addL (lstOf S (.ref n)) (lstOf S y) S
  | _, _, _ => .bad
section
variable {X : Cx}
def rAddA (K : PySem.W.Frag) : R2 := fun x y H Q => rI0 (fun i j => .int (i + j)) x y H Q ∨ (∃ i j, x = .str i ∧ y = .str j ∧ i.length + j.length ≤ sizeLine ∧ Q (.str (i ++ j)) H) ∨ rCatA K x y H Q ∨ rCat x y H Q
theorem op_addA : OpR X (binaryOp .Add) (rAddA X.K) := op_add.or (op_add_str.or (op_catA.or op_cat))
theorem add_lists {G : W3} {mg : Str → Option Value} {E : WX} {σ : L2.St} {m : Mp} {H : Hp} {S : Sto} {x y : D} {v u : V} {Q : VK} (s : Sim G H m S) (rx : Rep G.K H m x v) (ry : Rep G.K H m y u) (p : POk (RD G) G mg E σ m H Q (addL (lstOf S x) (lstOf S y) S)) : rCat v u H Q := by
  unfold addL at p
  split at p
  · rename_i xs ys e1 e2
    split at p
    · rename_i hl
      obtain ⟨a, vs, rfl, h1, r1⟩ := lst_at s rx e1
      obtain ⟨b, us, rfl, h2, r2⟩ := lst_at s ry e2
      refine ⟨a, b, vs, us, rfl, rfl, h1, h2, by rw [r1.length, r2.length]; exact sz_ok hl, fun q hq => ?_⟩
      exact p m _ _ (.new hq) (s.new hq) (.newLst s hq (r1.append r2))
    · exact p.elim
  · exact p.elim
theorem o_add : Op2 (g3 X) X.mg (rAddA X.K) addD := by
  intro E σ m H S x y v u Q s rx ry p
  unfold addD at p
  split at p
  · simp only [Rep] at rx ry
    exact .inl ⟨_, _, rx, ry, p m _ H (.refl _ _) s (by simp only [RD, Rep])⟩
  · simp only [Rep] at rx ry
    split at p
    · rename_i hl
      exact .inr (.inl ⟨_, _, rx, ry, sz_ok hl, p m _ H (.refl _ _) s (by simp only [RD, Rep])⟩)
    · exact p.elim
  · rename_i xs ys
    split at p
    · rename_i hl
      have rx0 := rx
      have ry0 := ry
      simp only [Rep] at rx ry
      obtain ⟨a, vs, rfl, t1, r1⟩ := rx
      obtain ⟨b, us, rfl, t2, r2⟩ := ry
      refine .inr (.inr (.inl ⟨a, b, vs, us, rfl, rfl, t1.sq, t2.sq, by rw [r1.length, r2.length]; exact sz_ok hl, fun e => ?_, fun _ e => ?_, fun _ _ q hq => ?_⟩))
      · have : xs = [] := List.length_eq_zero_iff.1 (by rw [← r1.length, e]; rfl)
        subst this
        exact p m _ H (.refl _ _) s ry0
      · have : ys = [] := List.length_eq_zero_iff.1 (by rw [← r2.length, e]; rfl)
        subst this
        rw [List.append_nil] at p
        exact p m _ H (.refl _ _) s rx0
      · exact p m _ _ (.new hq) (s.new hq) (.newTup hq (r1.append r2))
    · exact p.elim
  · rename_i xs
    exact .inr (.inr (.inr (add_lists s (x := .lst xs) rx ry p)))
  · exact .inr (.inr (.inr (add_lists s rx ry p)))
  · exact p.elim
/-! ### -, *, //, %, unary - -/
def subD : D → D → Sto → Res D
  | .int i, .int j, S => .ok (.int (i - j)) S
  | _, _, _ => .bad
theorem o_sub : Op2 (g3 X) X.mg (rI0 fun i j => .int (i - j)) subD := by
  intro E σ m H S x y v u Q s rx ry p
  unfold subD at p
  split at p
  · simp only [Rep] at rx ry
    exact ⟨_, _, rx, ry, p m _ H (.refl _ _) s (by simp only [RD, Rep])⟩
  · exact p.elim
open Classical in
noncomputable def fdivD : D → D → Sto → Res D
  | .int i, .int j, S => if 0 < j ∧ j < 1073741824 then .ok (.int (i / j)) S else .bad
  | _, _, _ => .bad
theorem o_fdiv : Op2 (g3 X) X.mg (rI CDiv fun i j => .int (i / j)) fdivD := by
  intro E σ m H S x y v u Q s rx ry p
  unfold fdivD at p
  split at p
  · simp only [Rep] at rx ry
    split at p
    · rename_i h
      exact ⟨_, _, rx, ry, h, p m _ H (.refl _ _) s (by simp only [RD, Rep])⟩
    · exact p.elim
  · exact p.elim
open Classical in
noncomputable def modD : D → D → Sto → Res D
  | .int i, .int j, S => if 0 < j then .ok (.int (i % j)) S else .bad
  | _, _, _ => .bad
theorem o_mod : Op2 (g3 X) X.mg (rI (fun _ j => 0 < j) fun i j => .int (i % j)) modD := by
  intro E σ m H S x y v u Q s rx ry p
  unfold modD at p
  split at p
  · simp only [Rep] at rx ry
    split at p
    · rename_i h
      exact ⟨_, _, rx, ry, h, p m _ H (.refl _ _) s (by simp only [RD, Rep])⟩
    · exact p.elim
  · exact p.elim
def negD : D → Sto → Res D
  | .int i, S => .ok (.int (-i)) S
  | _, _ => .bad
theorem o_neg : Op1 (g3 X) X.mg (rU fun i => .int (-i)) negD := by
  intro E σ m H S x v Q s rx p
  unfold negD at p
  split at p
  · simp only [Rep] at rx
    exact ⟨_, rx, p m _ H (.refl _ _) s (by simp only [RD, Rep])⟩
  · exact p.elim
/-! ### comparisons -/
def cmpI (f : Int → Int → Bool) (g : List Nat → List Nat → Bool) : D → D → Sto → Res D
  | .int i, .int j, S => .ok (.bl (f i j)) S
  | .str a, .str b, S => .ok (.bl (g a.cps.toList b.cps.toList)) S
  | _, _, _ => .bad
theorem o_cmpI {f : Int → Int → Bool} {g : List Nat → List Nat → Bool} : Op2 (g3 X) X.mg (fun x y H Q => rI0 (fun i j => .bl (f i j)) x y H Q ∨ ∃ i j, x = .str i ∧ y = .str j ∧ Q (.bl (g i.cps.toList j.cps.toList)) H) (cmpI f g) := by
  intro E σ m H S x y v u Q s rx ry p
  unfold cmpI at p
  split at p
  · simp only [Rep] at rx ry
    exact .inl ⟨_, _, rx, ry, p m _ H (.refl _ _) s (by simp only [RD, Rep])⟩
  · simp only [Rep] at rx ry
    exact .inr ⟨_, _, rx, ry, p m _ H (.refl _ _) s (by simp only [RD, Rep])⟩
  · exact p.elim
abbrev ltD : D → D → Sto → Res D := cmpI (fun i j => decide (i < j)) (fun a b => decide (a < b))
abbrev leD : D → D → Sto → Res D := cmpI (fun i j => decide (i ≤ j)) (fun a b => !decide (b < a))
abbrev gtD : D → D → Sto → Res D := cmpI (fun i j => decide (j < i)) (fun a b => decide (b < a))
abbrev geD : D → D → Sto → Res D := cmpI (fun i j => decide (j ≤ i)) (fun a b => !decide (a < b))
theorem op_ltA : OpR X (compareOp .Lt) (fun x y H Q => rI0 (fun i j => .bl (decide (i < j))) x y H Q ∨ ∃ i j, x = .str i ∧ y = .str j ∧ Q (.bl (decide (i.cps.toList < j.cps.toList))) H) := op_lt.or op_lt_str
/-- is None -/
def isnD (neg : Bool) : D → D → Sto → Res D
  | .non, .non, S => .ok (.bl (!neg)) S
  | .adr _, .non, _ => .bad
  | _, .non, S => .ok (.bl neg) S
  | _, _, _ => .bad
theorem rep_non {K : PySem.W.Frag} {H : Hp} {m : Mp} {d : D} (r : Rep K H m d .non) : d = .non := by
  cases d with
  | non => rfl
  | tup ds => simp only [Rep] at r; obtain ⟨_, _, h, _⟩ := r; cases h
  | lst ds => simp only [Rep] at r; obtain ⟨_, _, h, _⟩ := r; cases h
  | fz ds => simp only [Rep] at r; obtain ⟨_, _, h, _⟩ := r; cases h
  | ref n => simp only [Rep] at r; obtain ⟨_, h, _⟩ := r; cases h
  | _ => simp only [Rep] at r; cases r
theorem o_isn {neg : Bool} : Op2 (g3 X) X.mg (fun x y H Q => y = .non ∧ Q (.bl (if neg then !decide (x = .non) else decide (x = .non))) H) (isnD neg) := by
  intro E σ m H S x y v u Q s rx ry p
  unfold isnD at p
  split at p
  · simp only [Rep] at rx ry
    subst rx
    refine ⟨ry, p m _ H (.refl _ _) s ?_⟩
    cases neg <;> simp [RD, Rep]
  · exact p.elim
  · rename_i hx _
    have hv : v ≠ .non := fun e => by subst e; exact hx (rep_non rx)
    simp only [Rep] at ry
    refine ⟨ry, p m _ H (.refl _ _) s ?_⟩
    cases neg <;> simp [RD, Rep, hv]
  · exact p.elim
/-! ### == of data -/
def toPs (f : D → Option PyData) : List D → Option (List PyData)
  | [] => some []
  | d :: ds => match f d, toPs f ds with | some p, some ps => some (p :: ps) | _, _ => none
def toP : Nat → Sto → D → Option PyData
  | 0, _, _ => none
  | n + 1, S, .non => some .none
  | n + 1, S, .bl b => some (.bool b)
  | n + 1, S, .int i => some (.int i)
  | n + 1, S, .str x => if PyData.strOk x then some (.str x) else none
  | n + 1, S, .tup ds => (toPs (toP n S) ds).map .tuple
  | n + 1, S, .lst ds => (toPs (toP n S) ds).map .list
  | n + 1, S, .fz ds => (toPs (toP n S) ds).map .list
  | n + 1, S, .ref k => (match S[k]? with | some (.lst ds) => (toPs (toP n S) ds).map .list | _ => none)
  | n + 1, S, .adr _ => none
  | n + 1, S, .ty _ => none
theorem toPs_dp {G : W3} {H : Hp} {m : Mp} {f : D → Option PyData} {n : Nat} (hf : ∀ d v p, Rep G.K H m d v → f d = some p → Dp G.K H v p ∧ p.canLay0 = true ∧ p.depth ≤ n) :
    ∀ (ds : List D) (vs : List V) (ps : List PyData), RepL G.K H m ds vs → toPs f ds = some ps → DpAll G.K H vs ps ∧ PyData.canLayAll0 ps = true ∧ PyData.depthAll ps ≤ n
  | [], vs, ps, r, e => by
    simp only [RepL] at r
    subst r
    cases e
    exact ⟨.nil, by simp [PyData.canLayAll0], by simp [PyData.depthAll]⟩
  | d :: ds, vs, ps, r, e => by
    simp only [RepL] at r
    obtain ⟨v, rr, rfl, r1, r2⟩ := r
    simp only [toPs] at e
    split at e
    · rename_i p qs e1 e2
      cases e
      obtain ⟨a1, a2, a3⟩ := hf d v p r1 e1
      obtain ⟨b1, b2, b3⟩ := toPs_dp hf ds rr qs r2 e2
      exact ⟨.cons a1 b1, by simp [PyData.canLayAll0, a2, b2], by simp only [PyData.depthAll]; omega⟩
    · cases e
theorem toP_dp {G : W3} {H : Hp} {m : Mp} {S : Sto} (s : Sim G H m S) : ∀ (n : Nat) (d : D) (v : V) (p : PyData), Rep G.K H m d v → toP n S d = some p → Dp G.K H v p ∧ p.canLay0 = true ∧ p.depth ≤ n
  | 0, d, v, p, r, e => by simp [toP] at e
  | n + 1, .non, v, p, r, e => by simp only [toP] at e; cases e; simp only [Rep] at r; subst r; exact ⟨.non, by simp [PyData.canLay0], by simp [PyData.depth]⟩
  | n + 1, .bl b, v, p, r, e => by simp only [toP] at e; cases e; simp only [Rep] at r; subst r; exact ⟨.bl b, by simp [PyData.canLay0], by simp [PyData.depth]⟩
  | n + 1, .int b, v, p, r, e => by simp only [toP] at e; cases e; simp only [Rep] at r; subst r; exact ⟨.int b, by simp [PyData.canLay0], by simp [PyData.depth]⟩
  | n + 1, .str b, v, p, r, e => by
    simp only [toP] at e
    split at e
    · rename_i ho
      cases e
      simp only [Rep] at r
      subst r
      exact ⟨.str b, by simp [PyData.canLay0, ho], by simp [PyData.depth]⟩
    · cases e
  | n + 1, .tup ds, v, p, r, e => by
    simp only [toP] at e
    cases e1 : toPs (toP n S) ds with
    | none => rw [e1] at e; cases e
    | some ps =>
      rw [e1] at e
      cases e
      simp only [Rep] at r
      obtain ⟨a, vs, rfl, t, r⟩ := r
      obtain ⟨b1, b2, b3⟩ := toPs_dp (toP_dp s n) ds vs ps r e1
      exact ⟨.tup t.sq b1, by simp [PyData.canLay0, b2], by simp only [PyData.depth]; omega⟩
  | n + 1, .lst ds, v, p, r, e => by
    simp only [toP] at e
    cases e1 : toPs (toP n S) ds with
    | none => rw [e1] at e; cases e
    | some ps =>
      rw [e1] at e
      cases e
      simp only [Rep] at r
      obtain ⟨a, vs, rfl, hn, t, r⟩ := r
      obtain ⟨b1, b2, b3⟩ := toPs_dp (toP_dp s n) ds vs ps r e1
      exact ⟨.lst (.of t) b1, by simp [PyData.canLay0, b2], by simp only [PyData.depth]; omega⟩
  | n + 1, .fz ds, v, p, r, e => by
    simp only [toP] at e
    cases e1 : toPs (toP n S) ds with
    | none => rw [e1] at e; cases e
    | some ps =>
      rw [e1] at e
      cases e
      simp only [Rep] at r
      obtain ⟨a, vs, rfl, t, r⟩ := r
      obtain ⟨b1, b2, b3⟩ := toPs_dp (toP_dp s n) ds vs ps r e1
      exact ⟨.lst t.sq b1, by simp [PyData.canLay0, b2], by simp only [PyData.depth]; omega⟩
  | n + 1, .ref k, v, p, r, e => by
    simp only [toP] at e
    split at e
    · rename_i ds hS
      cases e1 : toPs (toP n S) ds with
      | none => rw [e1] at e; cases e
      | some ps =>
        rw [e1] at e
        cases e
        simp only [Rep] at r
        obtain ⟨a, rfl, ha⟩ := r
        obtain ⟨vs, t, r⟩ := s.lst ha hS
        obtain ⟨b1, b2, b3⟩ := toPs_dp (toP_dp s n) ds vs ps r e1
        exact ⟨.lst (.of t) b1, by simp [PyData.canLay0, b2], by simp only [PyData.depth]; omega⟩
    · cases e
  | n + 1, .adr _, v, p, r, e => by simp [toP] at e
  | n + 1, .ty _, v, p, r, e => by simp [toP] at e
abbrev dP (S : Sto) (d : D) : Option PyData := toP 12 S d
theorem dP_dp {G : W3} {H : Hp} {m : Mp} {S : Sto} (s : Sim G H m S) {d : D} {v : V} {p : PyData} (r : Rep G.K H m d v) (e : dP S d = some p) : Dp G.K H v p ∧ SeqAt.shaped p = true := by
  obtain ⟨a, b, c⟩ := toP_dp s 12 d v p r e
  exact ⟨a, by unfold SeqAt.shaped; rw [b, Bool.true_and]; exact decide_eq_true (by omega)⟩
def eqD (neg : Bool) (x y : D) (S : Sto) : Res D := match dP S x, dP S y with
  | some p, some q => .ok (.bl (if neg then !PyData.eqv p q else PyData.eqv p q)) S
  | _, _ => .bad
theorem o_eq : Op2 (g3 X) X.mg (rEqD X.K) (eqD false) := by
  intro E σ m H S x y v u Q s rx ry p
  unfold eqD at p
  split at p
  · rename_i a b e1 e2
    obtain ⟨d1, s1⟩ := dP_dp s rx e1
    obtain ⟨d2, s2⟩ := dP_dp s ry e2
    exact ⟨a, b, d1, d2, s1, s2, p m _ H (.refl _ _) s (by simp [RD, Rep])⟩
  · exact p.elim
theorem o_ne : Op2 (g3 X) X.mg (rNeD X.K) (eqD true) := by
  intro E σ m H S x y v u Q s rx ry p
  unfold eqD at p
  split at p
  · rename_i a b e1 e2
    obtain ⟨d1, s1⟩ := dP_dp s rx e1
    obtain ⟨d2, s2⟩ := dP_dp s ry e2
    exact ⟨a, b, d1, d2, s1, s2, p m _ H (.refl _ _) s (by simp [RD, Rep])⟩
  · exact p.elim
/-! ### in -/
def rInT (K : PySem.W.Frag) (neg : Bool) : R2 := fun x y H Q => ∃ d ds, Dp K H x d ∧ Dp K H y (.tuple ds) ∧ SeqAt.shaped d = true ∧ SeqAt.shaped (.tuple ds) = true ∧ Q (.bl (if neg then !ds.any (fun z => PyData.eqv z d) else ds.any fun z => PyData.eqv z d)) H
theorem op_inT (hu : X.A.units + 65 < cLine) : OpR X (compareOp .In) (rInT X.K false) := by
  rintro pins s σ H x y v u Q I rx ry ⟨d, ds, hd, he, sd, se, q⟩
  obtain ⟨as, r1⟩ := Dp.reads I d x v hd rx
  obtain ⟨bs, r2⟩ := Dp.reads I (.tuple ds) y u he ry
  have se' : PyData.canLayAll0 ds = true := by have := SeqAt.canLay_of_shaped se; simpa [PyData.canLay0] using this
  have hdd := SeqAt.depth_of_shaped sd
  exact SeqAt.in_tuple_reads r2 r1 se' (SeqAt.canLay_of_shaped sd) (by omega) ⟨.bl _, H, I, rfl, q⟩
theorem op_notInT (hu : X.A.units + 65 < cLine) : OpR X (compareOp .NotIn) (rInT X.K true) := by
  rintro pins s σ H x y v u Q I rx ry ⟨d, ds, hd, he, sd, se, q⟩
  obtain ⟨as, r1⟩ := Dp.reads I d x v hd rx
  obtain ⟨bs, r2⟩ := Dp.reads I (.tuple ds) y u he ry
  have se' : PyData.canLayAll0 ds = true := by have := SeqAt.canLay_of_shaped se; simpa [PyData.canLay0] using this
  have hdd := SeqAt.depth_of_shaped sd
  exact SeqAt.notIn_tuple_reads r2 r1 se' (SeqAt.canLay_of_shaped sd) (by omega) ⟨.bl _, H, I, rfl, q⟩
def inD (neg : Bool) (x y : D) (S : Sto) : Res D := match dP S x, dP S y with
  | some p, some (.list qs) => .ok (.bl (if neg then !qs.any (fun z => PyData.eqv z p) else qs.any fun z => PyData.eqv z p)) S
  | some p, some (.tuple qs) => .ok (.bl (if neg then !qs.any (fun z => PyData.eqv z p) else qs.any fun z => PyData.eqv z p)) S
  | _, _ => .bad
theorem o_in : Op2 (g3 X) X.mg (fun x y H Q => rInD X.K x y H Q ∨ rInT X.K false x y H Q) (inD false) := by
  intro E σ m H S x y v u Q s rx ry p
  unfold inD at p
  split at p
  · rename_i a b e1 e2
    obtain ⟨d1, s1⟩ := dP_dp s rx e1
    obtain ⟨d2, s2⟩ := dP_dp s ry e2
    exact .inl ⟨a, b, d1, d2, s1, s2, p m _ H (.refl _ _) s (by simp [RD, Rep])⟩
  · rename_i a b e1 e2
    obtain ⟨d1, s1⟩ := dP_dp s rx e1
    obtain ⟨d2, s2⟩ := dP_dp s ry e2
    exact .inr ⟨a, b, d1, d2, s1, s2, p m _ H (.refl _ _) s (by simp [RD, Rep])⟩
  · exact p.elim
theorem o_notIn : Op2 (g3 X) X.mg (fun x y H Q => rNotInD X.K x y H Q ∨ rInT X.K true x y H Q) (inD true) := by
  intro E σ m H S x y v u Q s rx ry p
  unfold inD at p
  split at p
  · rename_i a b e1 e2
    obtain ⟨d1, s1⟩ := dP_dp s rx e1
    obtain ⟨d2, s2⟩ := dP_dp s ry e2
    exact .inl ⟨a, b, d1, d2, s1, s2, p m _ H (.refl _ _) s (by simp [RD, Rep])⟩
  · rename_i a b e1 e2
    obtain ⟨d1, s1⟩ := dP_dp s rx e1
    obtain ⟨d2, s2⟩ := dP_dp s ry e2
    exact .inr ⟨a, b, d1, d2, s1, s2, p m _ H (.refl _ _) s (by simp [RD, Rep])⟩
  · exact p.elim
/-! ### items -/
def ixL (xs : Option (List D)) (i : Int) (S : Sto) : Res D := match xs with
  | some xs => (match L2.atI xs i with | some d => .ok d S | none => .bad)
  | none => .bad
def ixD : D → D → Sto → Res D
  | .str z, .int i, S => if z.length ≤ sz then (match L2.atI z.cps.toList i with | some c => .ok (.str ⟨#[c]⟩) S | none => .bad) else .bad
  | d, .int i, S => ixL (seqOf S d) i S
  | _, _, _ => .bad
theorem o_ix : Op2 (g3 X) X.mg (rIx X.K) ixD := by
  intro E σ m H S x y v u Q s rx ry p
  unfold ixD at p
  split at p
  · simp only [Rep] at rx ry
    split at p
    · rename_i hl
      split at p
      · rename_i c e
        exact .inr (.inr ⟨_, _, c, rx, ry, sz_ok hl, e, p m _ H (.refl _ _) s (by simp only [RD, Rep])⟩)
      · exact p.elim
    · exact p.elim
  · simp only [Rep] at ry
    unfold ixL at p
    split at p
    · rename_i xs hS
      split at p
      · rename_i d e
        obtain ⟨a, vs, rfl, hq, r⟩ := seq_at s rx hS
        obtain ⟨w, e1, r1⟩ := r.atI e
        have q := p m w H (.refl _ _) s r1
        rcases hq with hq | hq
        · exact .inl ⟨a, vs, _, w, rfl, ry, hq, e1, q⟩
        · exact .inr (.inl ⟨a, vs, _, w, rfl, ry, hq, e1, q⟩)
      · exact p.elim
    · exact p.elim
  · exact p.elim
/-! ### calls -/
def lenD : List D → Sto → Res D
  | [.str z], S => if z.length ≤ sz then .ok (.int z.length) S else .bad
  | [d], S => (match seqOf S d with | some xs => .ok (.int xs.length) S | none => .bad)
  | _, _ => .bad
theorem o_len : OpN (g3 X) X.mg (fun xs H Q => ∃ x n, xs = [x] ∧ LenV X.K x H n ∧ Q (.int (n : Nat)) H) lenD := by
  intro E σ m H S xs vs Q s r p
  unfold lenD at p
  split at p
  · simp only [RepL, Rep] at r
    obtain ⟨v, rr, rfl, rfl, rfl⟩ := r
    split at p
    · rename_i hl
      exact ⟨_, _, rfl, ⟨sz_ok hl, rfl⟩, p m _ H (.refl _ _) s (by simp only [RD, Rep])⟩
    · exact p.elim
  · simp only [RepL] at r
    obtain ⟨v, rr, rfl, r1, rfl⟩ := r
    split at p
    · rename_i ys hS
      obtain ⟨a, vs, rfl, hq, r⟩ := seq_at s r1 hS
      have q := p m (.int (ys.length : Nat)) H (.refl _ _) s (by simp only [RD, Rep])
      rw [← r.length] at q
      refine ⟨_, _, rfl, ?_, q⟩
      rcases hq with hq | hq
      · exact .inl ⟨vs, hq, rfl⟩
      · exact .inr ⟨vs, hq, rfl⟩
    · exact p.elim
  · exact p.elim
/-- tuple(x) -/
def tupleD : List D → Sto → Res D
  | [.tup xs], S => .ok (.tup xs) S
  | [d], S => (match seqOf S d with | some xs => .ok (.tup xs) S | none => .bad)
  | _, _ => .bad
theorem o_tuple : OpN (g3 X) X.mg (fun xs H Q => ∃ p ys, xs = [.ref p] ∧ ((SqL X.K H p ys ∧ ∀ l, H l = none → Q (.ref l) (upd H l (.tup ys))) ∨ (SqT X.K H p ys ∧ Q (.ref p) H))) tupleD := by
  intro E σ m H S xs vs Q s r p
  unfold tupleD at p
  split at p
  · simp only [RepL] at r
    obtain ⟨v, rr, rfl, r1, rfl⟩ := r
    have r0 := r1
    simp only [Rep] at r1
    obtain ⟨a, vs, rfl, t, r1⟩ := r1
    exact ⟨a, vs, rfl, .inr ⟨t.sq, p m _ H (.refl _ _) s r0⟩⟩
  · rename_i d hno
    simp only [RepL] at r
    obtain ⟨v, rr, rfl, r1, rfl⟩ := r
    split at p
    · rename_i ys hS
      have hL : ∃ a vs, v = .ref a ∧ SqL X.K H a vs ∧ RepL X.K H m ys vs := by
        by_cases h : lstOf S d = some ys
        · obtain ⟨a, vs, e1, e2, r⟩ := lst_at s r1 h
          exact ⟨a, vs, e1, .of e2, r⟩
        · cases d with
          | tup xs => exact absurd rfl (hno xs)
          | fz xs =>
            cases hS
            simp only [Rep] at r1
            obtain ⟨a, vs, ev, t, r⟩ := r1
            exact ⟨a, vs, ev, t.sq, r⟩
          | lst xs => exact absurd hS h
          | ref n => exact absurd hS h
          | _ => cases hS
      obtain ⟨a, vs, rfl, hq, r⟩ := hL
      exact ⟨a, vs, rfl, .inl ⟨hq, fun q hq => p m _ _ (.new hq) (s.new hq) (.newTup hq r)⟩⟩
    · exact p.elim
  · exact p.elim
/-- list(x), by value; to the store -/
def listD : List D → Sto → Res D
  | [d], S => (match seqOf S d with | some xs => .ok (.lst xs) S | none => .bad)
  | _, _ => .bad
def listN : List D → Sto → Res D
  | [d], S => (match seqOf S d with | some xs => .ok (.ref S.length) (S ++ [.lst xs]) | none => .bad)
  | _, _ => .bad
theorem Rep.refLast {K : PySem.W.Frag} {H : Hp} {m : Mp} {p : Addr} {n : Nat} (h : m.at_.length = n) : Rep K H (m.add p) (.ref n) (.ref p) := by
  simp only [Rep]
  exact ⟨p, rfl, by show (m.at_ ++ [p])[n]? = some p; rw [List.getElem?_append_right (by omega)]; simp [h]⟩
theorem o_list : OpN (g3 X) X.mg (fun xs H Q => ∃ p ys, xs = [.ref p] ∧ (SqL X.K H p ys ∨ SqT X.K H p ys) ∧ ∀ l, H l = none → Q (.ref l) (upd H l (.lst ys))) listD := by
  intro E σ m H S xs vs Q s r p
  unfold listD at p
  split at p
  · simp only [RepL] at r
    obtain ⟨v, rr, rfl, r1, rfl⟩ := r
    split at p
    · rename_i ys hS
      obtain ⟨a, vs, rfl, hq, r⟩ := seq_at s r1 hS
      exact ⟨a, vs, rfl, hq, fun q hq => p m _ _ (.new hq) (s.new hq) (.newLst s hq r)⟩
    · exact p.elim
  · exact p.elim
theorem o_listN : OpN (g3 X) X.mg (fun xs H Q => ∃ p ys, xs = [.ref p] ∧ (SqL X.K H p ys ∨ SqT X.K H p ys) ∧ ∀ l, H l = none → Q (.ref l) (upd H l (.lst ys))) listN := by
  intro E σ m H S xs vs Q s r p
  unfold listN at p
  split at p
  · simp only [RepL] at r
    obtain ⟨v, rr, rfl, r1, rfl⟩ := r
    split at p
    · rename_i ys hS
      obtain ⟨a, vs, rfl, hq, r⟩ := seq_at s r1 hS
      exact ⟨a, vs, rfl, hq, fun q hq => p (m.add q) _ _ (.alloc hq) (s.alloc hq ⟨vs, upd_same, r.mono (.alloc hq)⟩) (.refLast s.len)⟩
    · exact p.elim
  · exact p.elim
/-- all, any of bools -/
def blsOf : List D → Option (List Bool)
  | [] => some []
  | .bl b :: ds => (blsOf ds).map (b :: ·)
  | _ => none
theorem blsOf_eq : ∀ {ds : List D} {bs : List Bool}, blsOf ds = some bs → ds = bs.map D.bl
  | [], bs, e => by cases e; rfl
  | d :: ds, bs, e => by
    cases d with
    | bl b =>
      simp only [blsOf] at e
      cases e1 : blsOf ds with
      | none => rw [e1] at e; cases e
      | some cs => rw [e1] at e; cases e; rw [blsOf_eq e1]; rfl
    | _ => cases e
theorem blsOf_map : ∀ (bs : List Bool), blsOf (bs.map D.bl) = some bs
  | [] => rfl
  | b :: bs => by simp only [List.map_cons, blsOf, blsOf_map bs]; rfl
def boolsD (f : List Bool → Bool) : List D → Sto → Res D
  | [d], S => (match lstOf S d with | some xs => (match blsOf xs with | some bs => .ok (.bl (f bs)) S | none => .bad) | none => .bad)
  | _, _ => .bad
abbrev allD := boolsD (fun bs => bs.all id)
abbrev anyD := boolsD (fun bs => bs.any id)
theorem o_bools {f : List Bool → Bool} : OpN (g3 X) X.mg (fun vs H Q => ∃ (a : Addr) (bs : List Bool), vs = [V.ref a] ∧ SqL X.K H a (bs.map V.bl) ∧ Q (.bl (f bs)) H) (boolsD f) := by
  intro E σ m H S xs vs Q s r p
  unfold boolsD at p
  split at p
  · simp only [RepL] at r
    obtain ⟨v, rr, rfl, r1, rfl⟩ := r
    split at p
    · rename_i ys hS
      split at p
      · rename_i bs e
        obtain ⟨a, vs, rfl, hq, r⟩ := lst_at s r1 hS
        rw [blsOf_eq e] at r
        rw [r.bls] at hq
        exact ⟨a, bs, rfl, .of hq, p m _ H (.refl _ _) s (by simp only [RD, Rep])⟩
      · exact p.elim
    · exact p.elim
  · exact p.elim
/-- ints -/
def intsOf : List D → Option (List Int)
  | [] => some []
  | .int b :: ds => (intsOf ds).map (b :: ·)
  | _ => none
theorem intsOf_eq : ∀ {ds : List D} {bs : List Int}, intsOf ds = some bs → ds = bs.map D.int
  | [], bs, e => by cases e; rfl
  | d :: ds, bs, e => by
    cases d with
    | int b =>
      simp only [intsOf] at e
      cases e1 : intsOf ds with
      | none => rw [e1] at e; cases e
      | some cs => rw [e1] at e; cases e; rw [intsOf_eq e1]; rfl
    | _ => cases e
theorem intsOf_map : ∀ (bs : List Int), intsOf (bs.map D.int) = some bs
  | [] => rfl
  | b :: bs => by simp only [List.map_cons, intsOf, intsOf_map bs]; rfl
def minL : Int → List Int → Int
  | a, [] => a
  | a, b :: bs => minL (if b < a then b else a) bs
def maxL : Int → List Int → Int
  | a, [] => a
  | a, b :: bs => maxL (if b > a then b else a) bs
theorem minL_spec : ∀ (a : Int) (bs : List Int), minL a bs ∈ a :: bs ∧ ∀ y ∈ a :: bs, minL a bs ≤ y
  | a, [] => by simp [minL]
  | a, b :: bs => by
    obtain ⟨h1, h2⟩ := minL_spec (if b < a then b else a) bs
    simp only [minL]
    refine ⟨?_, fun y hy => ?_⟩
    · rcases List.mem_cons.1 h1 with h | h
      · rw [h]; split <;> simp
      · exact List.mem_cons_of_mem _ (List.mem_cons_of_mem _ h)
    · have h0 := h2 _ (List.mem_cons_self ..)
      generalize minL (if b < a then b else a) bs = z at h0 h2 ⊢
      rcases List.mem_cons.1 hy with rfl | hy
      · split at h0 <;> omega
      · rcases List.mem_cons.1 hy with rfl | hy
        · split at h0 <;> omega
        · exact h2 y (List.mem_cons_of_mem _ hy)
theorem maxL_spec : ∀ (a : Int) (bs : List Int), maxL a bs ∈ a :: bs ∧ ∀ y ∈ a :: bs, y ≤ maxL a bs
  | a, [] => by simp [maxL]
  | a, b :: bs => by
    obtain ⟨h1, h2⟩ := maxL_spec (if b > a then b else a) bs
    simp only [maxL]
    refine ⟨?_, fun y hy => ?_⟩
    · rcases List.mem_cons.1 h1 with h | h
      · rw [h]; split <;> simp
      · exact List.mem_cons_of_mem _ (List.mem_cons_of_mem _ h)
    · have h0 := h2 _ (List.mem_cons_self ..)
      generalize maxL (if b > a then b else a) bs = z at h0 h2 ⊢
      rcases List.mem_cons.1 hy with rfl | hy
      · split at h0 <;> omega
      · rcases List.mem_cons.1 hy with rfl | hy
        · split at h0 <;> omega
        · exact h2 y (List.mem_cons_of_mem _ hy)
def extD (f : Int → List Int → Int) : List D → Sto → Res D
  | [.int i, .int j], S => .ok (.int (f i [j])) S
  | [d], S => (match lstOf S d with | some xs => (match intsOf xs with | some (a :: bs) => .ok (.int (f a bs)) S | _ => .bad) | none => .bad)
  | _, _ => .bad
abbrev minD := extD minL
abbrev maxD := extD maxL
theorem o_min : OpN (g3 X) X.mg (fun vs H Q => rMin X.K vs H Q ∨ ∃ i j, vs = [.int i, .int j] ∧ Q (.int (if j < i then j else i)) H) minD := by
  intro E σ m H S xs vs Q s r p
  unfold minD extD at p
  split at p
  · rename_i i j
    have := RepL.ints (ns := [i, j]) r
    exact .inr ⟨i, j, this, p m _ H (.refl _ _) s (by simp only [RD, Rep]; rfl)⟩
  · simp only [RepL] at r
    obtain ⟨v, rr, rfl, r1, rfl⟩ := r
    split at p
    · rename_i ys hS
      split at p
      · rename_i a bs e
        obtain ⟨ad, vs, rfl, hq, r⟩ := lst_at s r1 hS
        rw [intsOf_eq e] at r
        rw [r.ints] at hq
        refine .inl ⟨ad, a :: bs, rfl, .of hq, by simp, fun mm h1 h2 => ?_⟩
        have hs := minL_spec a bs
        have : mm = minL a bs := by have := hs.2 mm h1; have := h2 _ hs.1; omega
        subst this
        exact p m _ H (.refl _ _) s (by simp only [RD, Rep])
      · exact p.elim
    · exact p.elim
  · exact p.elim
theorem o_max : OpN (g3 X) X.mg (fun vs H Q => rMax X.K vs H Q ∨ ∃ i j, vs = [.int i, .int j] ∧ Q (.int (if j > i then j else i)) H) maxD := by
  intro E σ m H S xs vs Q s r p
  unfold maxD extD at p
  split at p
  · rename_i i j
    have := RepL.ints (ns := [i, j]) r
    exact .inr ⟨i, j, this, p m _ H (.refl _ _) s (by simp only [RD, Rep]; rfl)⟩
  · simp only [RepL] at r
    obtain ⟨v, rr, rfl, r1, rfl⟩ := r
    split at p
    · rename_i ys hS
      split at p
      · rename_i a bs e
        obtain ⟨ad, vs, rfl, hq, r⟩ := lst_at s r1 hS
        rw [intsOf_eq e] at r
        rw [r.ints] at hq
        refine .inl ⟨ad, a :: bs, rfl, .of hq, by simp, fun mm h1 h2 => ?_⟩
        have hs := maxL_spec a bs
        have : mm = maxL a bs := by have := hs.2 mm h1; have := h2 _ hs.1; omega
        subst this
        exact p m _ H (.refl _ _) s (by simp only [RD, Rep])
      · exact p.elim
    · exact p.elim
  · exact p.elim
theorem call_minA (hc : X.calm = true) : CallR X (.builtin "min") (fun vs H Q => rMin X.K vs H Q ∨ ∃ i j, vs = [.int i, .int j] ∧ Q (.int (if j < i then j else i)) H) := (cr_min hc).or (call_min2 hc)
theorem call_maxA (hc : X.calm = true) : CallR X (.builtin "max") (fun vs H Q => rMax X.K vs H Q ∨ ∃ i j, vs = [.int i, .int j] ∧ Q (.int (if j > i then j else i)) H) := (cr_max hc).or (call_max2 hc)
/-- int(x) -/
def intD : List D → Sto → Res D
  | [.int i], S => .ok (.int i) S
  | [.bl b], S => .ok (.int (if b then 1 else 0)) S
  | _, _ => .bad
theorem o_int : OpN (g3 X) X.mg (fun xs H Q => (∃ i, xs = [.int i] ∧ Q (.int i) H) ∨ ∃ k, xs = [.bl k] ∧ Q (.int (if k then 1 else 0)) H) intD := by
  intro E σ m H S xs vs Q s r p
  unfold intD at p
  split at p
  · simp only [RepL, Rep] at r
    obtain ⟨v, rr, rfl, rfl, rfl⟩ := r
    exact .inl ⟨_, rfl, p m _ H (.refl _ _) s (by simp only [RD, Rep])⟩
  · simp only [RepL, Rep] at r
    obtain ⟨v, rr, rfl, rfl, rfl⟩ := r
    exact .inr ⟨_, rfl, p m _ H (.refl _ _) s (by simp only [RD, Rep])⟩
  · exact p.elim
/-- isinstance(x, T), T a built-in type -/
def tyOf (S : Sto) : D → Option String
  | .non => some "NoneType"
  | .bl _ => some "bool"
  | .int _ => some "int"
  | .str _ => some "str"
  | .tup _ => some "tuple"
  | .lst _ => some "list"
  | .ref n => (match S[n]? with | some (.lst _) => some "list" | some (.dS _) => some "dict" | _ => none)
  | _ => none
theorem tyOf_ok {G : W3} {H : Hp} {m : Mp} {S : Sto} {d : D} {v : V} {T : String} (s : Sim G H m S) (r : Rep G.K H m d v) (e : tyOf S d = some T) : TyX G.K H v (.type T) := by
  cases d with
  | non => cases e; simp only [Rep] at r; subst r; exact .base .non
  | bl b => cases e; simp only [Rep] at r; subst r; exact .base (.bl b)
  | int b => cases e; simp only [Rep] at r; subst r; exact .base (.int b)
  | str b => cases e; simp only [Rep] at r; subst r; exact .base (.str b)
  | tup ds =>
    cases e
    simp only [Rep] at r
    obtain ⟨a, vs, rfl, t, r⟩ := r
    rcases t with t | ⟨o, its, n, h1, h2, _⟩
    · exact .base (.tup t)
    · exact .kTuple h1 h2
  | lst ds =>
    cases e
    simp only [Rep] at r
    obtain ⟨a, vs, rfl, hn, t, r⟩ := r
    exact .base (.lst t)
  | ref n =>
    simp only [tyOf] at e
    simp only [Rep] at r
    obtain ⟨a, rfl, ha⟩ := r
    split at e
    · rename_i ds hS
      cases e
      obtain ⟨vs, h1, _⟩ := s.at_ n a _ ha hS
      exact .base (.lst h1)
    · rename_i ds hS
      cases e
      obtain ⟨vs, h1, _⟩ := s.at_ n a _ ha hS
      exact .base (.dK h1)
    · cases e
  | _ => cases e
def isiD : List D → Sto → Res D
  | [x, .ty c], S => (match tyOf S x with | some t => (match kitB t c with | some b => .ok (.bl b) S | none => .bad) | none => .bad)
  | _, _ => .bad
theorem o_isi : OpN (g3 X) X.mg (rIsi X.K) isiD := by
  intro E σ m H S xs vs Q s r p
  unfold isiD at p
  split at p
  · rename_i x c
    simp only [RepL, Rep] at r
    obtain ⟨v, rr, rfl, r1, w, r2, rfl, rfl, rfl⟩ := r
    split at p
    · rename_i t e
      split at p
      · rename_i b e2
        exact ⟨v, .ty c, .type t, .type c, b, rfl, .ty c, tyOf_ok s r1 e, kit_ty e2, p m _ H (.refl _ _) s (by simp only [RD, Rep])⟩
      · exact p.elim
    · exact p.elim
  · exact p.elim
theorem se_bty {E : WX} {x : Str} {n : String} {pos : Pos} (hg : Gl X x) (hm : X.mg x = none) (hv : bootBuiltins x = some (.type n)) (hn : x ≠ "__name__" := by decide) (hd : (x == ("__debug__" : Str)) = false := by decide) : SE X E (.Name x pos) (eC (.ty n)) :=
  se_c (pe_bltn (v := .ty n) hg hm hv rfl hn hd) fun _ _ => by simp only [Rep]
end
end Py
set_option maxRecDepth 100000
set_option maxHeartbeats 1000000
namespace Py
open PySem PySem.Spec PyProof.Rows L2

/-! ### t[::-1], t[::2] of a tuple -/
def evens {α : Type} : List α → List α
  | [] => []
  | [x] => [x]
  | x :: _ :: r => x :: evens r
theorem evens_len {α : Type} : ∀ xs : List α, (evens xs).length = (xs.length + 1) / 2
  | [] => by simp [evens]
  | [_] => by simp [evens]
  | x :: y :: r => by simp only [evens, List.length_cons, evens_len r]; omega
theorem evens_get {α : Type} : ∀ (xs : List α) (i : Nat), (evens xs)[i]? = xs[2 * i]?
  | [], i => by simp [evens]
  | [x], 0 => rfl
  | [x], i + 1 => by simp [evens]
  | x :: y :: r, 0 => rfl
  | x :: y :: r, i + 1 => by
    simp only [evens, List.getElem?_cons_succ]
    rw [evens_get r i, show 2 * (i + 1) = 2 * i + 1 + 1 by omega]
    simp
theorem evens_map {α β : Type} (f : α → β) : ∀ xs : List α, evens (xs.map f) = (evens xs).map f
  | [] => rfl
  | [_] => rfl
  | x :: y :: r => by simp only [List.map_cons, evens, evens_map f r]
theorem fm_range {α : Type} (g : Nat → Option α) (zs : List α) (h : ∀ i, i < zs.length → g i = zs[i]?) : ∀ k, k ≤ zs.length → (List.range k).filterMap g = zs.take k
  | 0, _ => by simp
  | k + 1, hk => by
    rw [List.range_succ, List.filterMap_append, fm_range g zs h k (by omega), List.take_add_one]
    congr 1
    rw [List.getElem?_eq_getElem (by omega)]
    have := h k (by omega)
    rw [List.getElem?_eq_getElem (by omega)] at this
    simp [this]
theorem Vals.evens : ∀ {xs : List V} {us : List Value}, Vals xs us → Vals (evens xs) (Py.evens us)
  | [], _, h => by cases h; exact .nil
  | [x], _, h => by cases h with | cons a b => cases b; exact .cons a .nil
  | x :: y :: r, _, h => by
    cases h with
    | cons a b => cases b with
      | cons c d => exact .cons a (Vals.evens d)
def stepL {α : Type} (c : Int) (xs : List α) : List α := if c = -1 then xs.reverse else evens xs
theorem Vals.stepL {c : Int} {xs : List V} {us : List Value} (h : Vals xs us) : Vals (stepL c xs) (Py.stepL c us) := by
  unfold Py.stepL
  split
  · exact h.reverse
  · exact Vals.evens h
theorem stepL_len {α : Type} (c : Int) (xs : List α) : (stepL c xs).length ≤ xs.length := by
  unfold stepL
  split
  · simp
  · rw [evens_len]; omega
section
variable {prog : Program} {w : World} {A : Around} {E : Value → Shared → Prop} {s : Shared}
theorem step_parts (c : Int) (hc : c = -1 ∨ c = 2) (items : Array Value) : ∃ lo : Int, ∃ n : Nat, Builtin.Slice.sliceAdjust none none c (items.size : Int) = (lo, if c = -1 then -1 else (items.size : Int)) ∧
    Builtin.Slice.slicePlaces lo (if c = -1 then -1 else (items.size : Int)) c = n ∧ ((List.range n).filterMap fun (k : Nat) => items[(lo + (k : Int) * c).toNat]?).toArray = (stepL c items.toList).toArray := by
  rcases hc with rfl | rfl
  · refine ⟨(items.size : Int) - 1, items.size, by simp [Builtin.Slice.sliceAdjust], ?_, ?_⟩
    · unfold Builtin.Slice.slicePlaces
      rw [if_neg (by decide), if_pos rfl]
      split
      · simp
      · simp; omega
    · congr 1
      have := fm_range (fun k : Nat => items[((items.size : Int) - 1 + (k : Int) * -1).toNat]?) items.toList.reverse (fun i hi => ?_) items.size (by simp)
      · rw [this, List.take_of_length_le (by simp)]
        simp [stepL]
      · simp only [List.length_reverse, Array.length_toList] at hi
        rw [List.getElem?_reverse (by simpa using hi), show ((items.size : Int) - 1 + (i : Int) * -1).toNat = items.toList.length - 1 - i by rw [Array.length_toList]; omega]
        simp
  · refine ⟨0, (items.size + 1) / 2, by simp [Builtin.Slice.sliceAdjust], ?_, ?_⟩
    · unfold Builtin.Slice.slicePlaces
      rw [if_pos (by decide), if_neg (show ¬ (2 : Int) = -1 by decide)]
      split <;> omega
    · congr 1
      have hl : (Py.evens items.toList).length = (items.size + 1) / 2 := by rw [evens_len, Array.length_toList]
      have := fm_range (fun k : Nat => items[((0 : Int) + (k : Int) * 2).toNat]?) (Py.evens items.toList) (fun i hi => ?_) ((items.size + 1) / 2) (by omega)
      · rw [this, List.take_of_length_le (by omega)]
        simp [stepL]
      · rw [evens_get, show ((0 : Int) + (i : Int) * 2).toNat = 2 * i by omega]
        simp
theorem applied_step {sl : Addr} {vl vu vs : Value} {c lo hi : Int} {n k : Nat} {Q : Int × Int × Nat → Shared → Prop} (hs : s.heap.IsSliceOf sl vl vu vs) (pl : IsPart vl none) (pu : IsPart vu none) (ps : IsPart vs (some c)) (h0 : c ≠ 0)
    (e1 : Builtin.Slice.sliceAdjust none none c (n : Int) = (lo, hi)) (e2 : Builtin.Slice.slicePlaces lo hi c = k) (h : Q (lo, c, k) s) : wpAny (model prog w) A (Builtin.Slice.sliceApplied (.ref sl) (pure (n : Int))) Q E s := by
  obtain ⟨os, hos, hcs, hds⟩ := id hs
  unfold Builtin.Slice.sliceApplied Builtin.Slice.sliceFields
  apply wpAny_bind
  apply wpAny_bind
  refine wpAny_field hos hds (x := vl) rfl ?_
  apply wpAny_bind
  refine wpAny_field hos hds (x := vu) rfl ?_
  apply wpAny_bind
  refine wpAny_field hos hds (x := vs) rfl ?_
  apply wpAny_pure
  refine wpAny_bind (HT.slicePart_ ps ?_)
  have hz : ¬ ((c == 0) = true) := by simpa using h0
  show wpAny _ _ (if (c == 0) = true then _ else _) _ _ s
  rw [if_neg hz]
  refine wpAny_bind (HT.slicePart_ pl ?_)
  refine wpAny_bind (HT.slicePart_ pu ?_)
  refine wpAny_bind (wpAny_pure ?_)
  show wpAny _ _ (match Builtin.Slice.sliceAdjust none none c (n : Int) with | (lo, hi) => pure (lo, c, Builtin.Slice.slicePlaces lo hi c)) _ _ s
  rw [e1]
  show wpAny _ _ (pure (lo, c, Builtin.Slice.slicePlaces lo hi c)) _ _ s
  rw [e2]
  exact wpAny_pure h
theorem getItem_step {t sl : Addr} {items : Array Value} {vl vu vs : Value} {c : Int} {Q : Value → Shared → Prop} (ht : IsTup s.heap t items) (hs : s.heap.IsSliceOf sl vl vu vs) (pl : IsPart vl none) (pu : IsPart vu none) (ps : IsPart vs (some c)) (hc : c = -1 ∨ c = 2)
    (h : Q (.ref s.heap.objs.size) { s with heap := s.heap.push { cls := .type "tuple", data := .seq (stepL c items.toList).toArray } }) (hsz : items.size ≤ sizeLine) : wpAny (model prog w) A (getItem (.ref t) (.ref sl)) Q E s := by
  have hfit : sizeOk (.seq (stepL c items.toList).toArray) := by
    show (stepL c items.toList).toArray.size ≤ sizeLine
    have := stepL_len c items.toList
    have hl : items.toList.length = items.size := Array.length_toList
    rw [List.size_toArray]
    omega
  obtain ⟨lo, n, e1, e2, e3⟩ := step_parts c hc items
  obtain ⟨os, hos, hcs, hds⟩ := id hs
  have hTs : s.TypeIs (.ref sl) "slice" := ⟨os, hos, hcs⟩
  unfold getItem
  try with_reducible refine wpAny_holding ?_
  first | refine wpAny_bind (wpAny_pure ?_) | skip
  apply wpAny_bind
  refine wpAny_sequenceKey ht.typeIs (by decide) ?_
  apply wpAny_bind
  refine wpAny_callSpecial?_slot (name := Str.ofString "__getitem__") ht.typeIs PyProof.Rows.slot_tuple_getitem ?_
  refine wpAny_call_entry PyProof.Rows.slot_tuple_getitem ht.typeIs entry_tuple_getitem ?_ (args_tuple_getitem _ _)
  show wpAny _ _ (Builtin.Tuple.tupleItemsOf (.ref t) >>= _) _ _ s
  apply wpAny_bind
  refine tupleItemsOf_ ht ?_
  apply wpAny_bind
  refine wpAny_typeOf hTs ?_
  rw [if_pos (by decide)]
  apply wpAny_bind
  refine applied_step hs pl pu ps (by rcases hc with rfl | rfl <;> decide) e1 e2 ?_
  have hno : ¬ ((lo == 0 && c == 1 && n == items.size) = true) := by
    rcases hc with rfl | rfl <;> simp
  show wpAny _ _ (if (lo == 0 && c == 1 && n == items.size) = true then _ else _) _ _ s
  rw [if_neg hno, e3]
  first
    | exact wpAny_bind (m := Builtin.Tuple.tupleExact _) (wpAny_newObj_type (wpAny_pure ⟨_, rfl, wpAny_pure h⟩) hfit)
    | exact wpAny_bind (m := Builtin.Tuple.tupleExact _) (wpAny_newObj_type (wpAny_bind (wpAny_pure (wpAny_pure ⟨_, rfl, wpAny_pure h⟩))) hfit)
    | exact wpAny_bind (wpAny_bind (m := Builtin.Tuple.tupleExact _) (wpAny_newObj_type (wpAny_pure (wpAny_pure ⟨_, rfl, wpAny_pure h⟩)) hfit))
    | exact wpAny_bind (wpAny_bind (m := Builtin.Tuple.tupleExact _) (wpAny_newObj_type (wpAny_pure ⟨_, rfl, wpAny_pure h⟩) hfit))
end
section
variable {X : Cx}
def tStep (K : PySem.W.Frag) (c : Int) (te : TE) : TE := fun σ H Q => te σ H fun x H1 => ∃ a xs, x = .ref a ∧ SqT K H1 a xs ∧ ∀ p, H1 p = none → Q (.ref p) (upd H1 p (.tup (stepL c xs)))
theorem pe_step {e st : Expr} {te : TE} {c : Int} {p3 pos : Pos} {tst : TE} (he : PE X e te) (hst : PE X st tst) (hq : ∀ σ H Q, Q (.int c) H → tst σ H Q) (hc : c = -1 ∨ c = 2)
    (hpl : ∀ o i, subscripted (.Slice none none (some st) p3) false o i = operate [o, i] (getItem o i) := by intros; rfl) :
    PE X (.Subscript e (.Slice none none (some st) p3) pos) (tStep X.K c te) := by
  constructor
  intro pins s σ H Q I h
  apply Subscript_
  refine thn (he.run pins s σ H _ I h) ?_
  rintro v s1 ⟨x, H1, I1, r1, a, xs, rfl, hx, q⟩
  cases r1
  have hs : PO X (some st) (tPart tst) := po_some hst
  apply wpAny_Slice
  refine thn (po_none.run pins s1 σ H1 (fun o H2 => o = none ∧ H2 = H1) I1 ⟨rfl, rfl⟩) ?_
  rintro vl s2 ⟨l, H2, I2, pl, rfl, rfl⟩
  refine thn (po_none.run pins s2 σ H2 (fun o H3 => o = none ∧ H3 = H2) I2 ⟨rfl, rfl⟩) ?_
  rintro vu s3 ⟨u, H3, I3, pu, rfl, rfl⟩
  refine thn (hs.run pins s3 σ H3 (fun o H4 => o = some c ∧ H4 = H3) I3 (hq _ _ _ ⟨c, rfl, rfl, rfl⟩)) ?_
  rintro vs s4 ⟨o, H4, I4, ps, rfl, rfl⟩
  have I5 : Inv X pins σ H4 { s4 with heap := s4.heap.push { cls := .type "slice", data := .fields #[vl, vu, vs] } } := I4.kept (t' := s4.toks) fun b ob q => Heap.get?_push_of_some _ q
  obtain ⟨its, r, ht, hz⟩ := I5.tuple hx
  have hlen := r.length
  show wpAny (model X.prog X.w) X.A (subscriptTail e _ (.ref a) (.ref s4.heap.objs.size)) _ X.xe _
  refine tail_any (ops := [.ref a, .ref s4.heap.objs.size]) ht.typeIs PyProof.Rows.slot_tuple_getitem.lookup ?_ (hpl _ _)
  refine getItem_step ht (Heap.IsSliceOf.new _ vl vu vs) pl pu ps hc ?_ (by rw [List.size_toArray]; omega)
  refine ⟨.ref _, _, I5.laid (t' := s4.toks) (o := .tup (stepL c xs)) (fun b ob q => Heap.get?_push_of_some _ q) (Nat.le_refl _) ?_, rfl, q _ (I5.hok.fresh (Nat.le_refl _))⟩
  exact ⟨Nat.le_trans (stepL_len c xs) hz, _, Vals.stepL r, IsTup.new _ _⟩
end
end Py
set_option maxRecDepth 100000
set_option maxHeartbeats 1000000
namespace Py
open PySem PySem.Spec PyProof.Rows L2

theorem RepL.evens {K : PySem.W.Frag} {H : Hp} {m : Mp} : ∀ {ds : List D} {vs : List V}, RepL K H m ds vs → RepL K H m (Py.evens ds) (Py.evens vs)
  | [], vs, h => by simp only [RepL] at h; subst h; exact .nil
  | [d], vs, h => by
    simp only [RepL] at h
    obtain ⟨v, r, rfl, h1, rfl⟩ := h
    exact .one h1
  | d :: d' :: ds, vs, h => by
    simp only [RepL] at h
    obtain ⟨v, r, rfl, h1, v', r', rfl, h2, h3⟩ := h
    exact .cons h1 (RepL.evens h3)
theorem RepL.stepL {K : PySem.W.Frag} {H : Hp} {m : Mp} {c : Int} {ds : List D} {vs : List V} (h : RepL K H m ds vs) : RepL K H m (Py.stepL c ds) (Py.stepL c vs) := by
  unfold Py.stepL
  split
  · exact h.reverse
  · exact h.evens
def eStep (c : Int) (f : ME) : ME := fun fr S => (f fr S).bind fun d S => match d with | .tup xs => .ok (.tup (stepL c xs)) S | _ => .bad
section
variable {X : Cx} {E : WX} {e : Expr} {f : ME} {pos : Pos}
theorem step_of {c : Int} {σ : L2.St} {H : Hp} {Q : VK} (h : tE (g3 X) X.mg E (eStep c f) σ H Q) : tStep X.K c (tE (g3 X) X.mg E f) σ H Q := by
  obtain ⟨m, fr, S, at_, h⟩ := h
  refine ⟨m, fr, S, at_, POk.bind h fun d S1 m1 v H1 e g s r p => ?_⟩
  cases d with
  | tup xs =>
    simp only [RD, Rep] at r
    obtain ⟨a, vs, rfl, t, r⟩ := r
    exact ⟨a, vs, rfl, t.sq, fun q hq => p m1 _ _ (.new hq) (s.new hq) (.newTup hq r.stepL)⟩
  | _ => exact p.elim
/-- e[::-1] -/
theorem se_rev {k : Nat} {p1 p2 p3 : Pos} (he : SE X E e f) : SE X E (.Subscript e (.Slice none none (some (.UnaryOp .USub (.Constant (.int 1) k p1) p2)) p3) pos) (eStep (-1) f) :=
  pe_imp (pe_step (c := -1) he (pe_un un_neg pe_int) (fun σ H Q q => ⟨1, rfl, q⟩) (.inl rfl)) fun _ _ _ h => step_of h
/-- e[::2] -/
theorem se_halve {k : Nat} {p1 p3 : Pos} (he : SE X E e f) : SE X E (.Subscript e (.Slice none none (some (.Constant (.int 2) k p1)) p3) pos) (eStep 2 f) :=
  pe_imp (pe_step (c := 2) he pe_int (fun σ H Q q => q) (.inr rfl)) fun _ _ _ h => step_of h
/-! ### slices -/
abbrev MO := Fr → Sto → Res (Option Int)
abbrev RO : Hp → Mp → Option Int → Option Int → Prop := fun _ _ a b => b = a
def tO (G : W3) (mg : Str → Option Value) (E : WX) (f : MO) : TO := fun σ H Q => ∃ m fr S, At G H m σ fr S ∧ POk RO G mg E σ m H Q (f fr S)
def SO (X : Cx) (E : WX) (e : Option Expr) (f : MO) : Prop := PO X e (tO (g3 X) X.mg E f)
theorem po_imp {e : Option Expr} {t t' : TO} (h : PO X e t) (w : ∀ σ H Q, t' σ H Q → t σ H Q) : PO X e t' := ⟨fun pins s σ H Q I q => h.run pins s σ H Q I (w σ H Q q)⟩
def oNone : MO := fun _ S => .ok none S
def oSome (f : ME) : MO := fun fr S => (f fr S).bind fun d S => match d with | .int i => .ok (some i) S | _ => .bad
theorem so_none : SO X E none oNone := po_imp po_none fun σ H Q h => by
  obtain ⟨m, fr, S, at_, h⟩ := h
  exact h m none H (.refl _ _) at_.s rfl
theorem so_some (h : SE X E e f) : SO X E (some e) (oSome f) := po_imp (po_some h) fun σ H Q h => by
  obtain ⟨m, fr, S, at_, h⟩ := h
  refine ⟨m, fr, S, at_, POk.bind h fun d S1 m1 v H1 e g s r p => ?_⟩
  cases d with
  | int i => simp only [RD, Rep] at r; exact ⟨i, r, p m1 _ H1 (.refl _ _) s rfl⟩
  | _ => exact p.elim
def cutD (xs : List D) (lo hi : Option Int) : List D := (xs.drop (HT.sIx xs.length 0 lo)).take (HT.sIx xs.length xs.length hi - HT.sIx xs.length 0 lo)
theorem RepL.cut {K : PySem.W.Frag} {H : Hp} {m : Mp} {ds : List D} {vs : List V} {lo hi : Option Int} (h : RepL K H m ds vs) : RepL K H m (cutD ds lo hi) (cutV vs lo hi) := by
  unfold cutD cutV
  rw [h.length]
  exact (h.drop _).take _
theorem cut_whole {xs : List D} {lo hi : Option Int} (h : HT.sIx xs.length 0 lo = 0 ∧ HT.sIx xs.length xs.length hi = xs.length) : cutD xs lo hi = xs := by
  unfold cutD
  rw [h.1, h.2]
  simp
def slcD (d : D) (lo hi : Option Int) (S : Sto) : Res D := match d with
  | .tup xs => .ok (.tup (cutD xs lo hi)) S
  | .str z => if z.length ≤ sz then .ok (.str (cutS z lo hi)) S else .bad
  | d => (match lstOf S d with | some xs => .ok (.lst (cutD xs lo hi)) S | none => .bad)
def eSlc (f : ME) (lo hi : MO) : ME := fun fr S => (f fr S).bind fun d S => (lo fr S).bind fun a S => (hi fr S).bind fun b S => slcD d a b S
def rSlAll (K : PySem.W.Frag) : V → Option Int → Option Int → Hp → VK → Prop := fun x lo hi H Q => rSlA K x lo hi H Q ∨ rSlL K x lo hi H Q ∨ rSlS x lo hi H Q
theorem sl_all : SlR X (rSlAll X.K) := sl_tupA.or (sl_list.or sl_str)
theorem se_slc {lo hi : Option Expr} {tl th : MO} {p2 : Pos} (he : SE X E e f) (hl : SO X E lo tl) (hu : SO X E hi th) : SE X E (.Subscript e (.Slice lo hi none p2) pos) (eSlc f tl th) :=
  pe_imp (pe_slice sl_all he hl hu) fun σ H Q h => by
    obtain ⟨m, fr, S, at_, h⟩ := h
    refine ⟨m, fr, S, at_, POk.bind h fun d S1 m1 v H1 e1 g1 s1 r1 p1 => ?_⟩
    refine ⟨m1, fr, S1, ⟨at_.f.mono g1, s1⟩, POk.bind p1 fun a S2 m2 a' H2 e2 g2 s2 r2 p2 => ?_⟩
    refine ⟨m2, fr, S2, ⟨at_.f.mono (g1.trans g2), s2⟩, POk.bind p2 fun b S3 m3 b' H3 e3 g3' s3 r3 p3 => ?_⟩
    subst r2; subst r3
    have rd := r1.mono (g2.trans g3')
    unfold slcD at p3
    split at p3
    · rename_i xs
      have rd0 := rd
      simp only [RD, Rep] at rd
      obtain ⟨ad, vs, rfl, t, r⟩ := rd
      refine .inl ⟨ad, vs, rfl, t.sq, fun hw => ?_, fun hw q hq => p3 m3 _ _ (.new hq) (s3.new hq) (.newTup hq r.cut)⟩
      rw [r.length] at hw
      rw [cut_whole hw] at p3
      exact p3 m3 _ H3 (.refl _ _) s3 rd0
    · simp only [RD, Rep] at rd
      split at p3
      · rename_i hz
        exact .inr (.inr ⟨_, rd, sz_ok hz, p3 m3 _ H3 (.refl _ _) s3 (by simp only [RD, Rep])⟩)
      · exact p3.elim
    · split at p3
      · rename_i xs hS
        obtain ⟨ad, vs, rfl, hq, r⟩ := lst_at s3 rd hS
        exact .inr (.inl ⟨ad, vs, rfl, .of hq, fun q hq => p3 m3 _ _ (.new hq) (s3.new hq) (.newLst s3 hq r.cut)⟩)
      · exact p3.elim
end
end Py
set_option maxRecDepth 100000
set_option maxHeartbeats 1000000
namespace Py
open PySem PySem.Spec PyProof.Rows L2
open PySem.AutoSeq1 (wpAny_loadPart')
open PySem.MeetsSeq PySem.MeetsSeq2 PySem.MeetsSeq3 in
theorem tuple_mul_same (l : Addr) (items : Array Value) (n : Nat) (dd : Option Addr) (sl : Array (Option Value)) (x : Int) (u : Tok) (c0 : (decide (x < -(2 ^ 63)) || decide (x ≥ 2 ^ 63)) = false) (c1 : (items.isEmpty || x == 1) = true) :
    Meets (Builtin.«tuple.__mul__» ⟨[.ref l, .int x u], []⟩) (fun _ R s => s.heap.get? l = some { cls := .type "tuple", dict := dd, data := .seq items n, slots := sl } ∧ R (.ok (.ret (.ref l))) s) :=
  .of_wp fun prog w A R s h => by
    obtain ⟨hp, g, d, tk, os⟩ := s
    obtain ⟨hl, h⟩ := h
    have f1 := AutoSeq1.idx_int
    wp_walk using wpAny_loadPart' hl
    repeat (first
      | (refine wpAny_ite_false (decide_eq_false (by rw [c0]; exact Bool.false_ne_true)) ?_; wp_walk using wpAny_loadPart' hl)
      | (refine wpAny_ite_true (decide_eq_true (by rw [c1])) ?_; wp_walk using wpAny_loadPart' hl)
      | (refine wpAny_ite_true (decide_eq_true (by decide)) ?_; wp_walk using wpAny_loadPart' hl))
    exact ⟨_, rfl, h⟩
open PySem.MeetsSeq PySem.MeetsSeq2 PySem.MeetsSeq3 in
theorem tuple_mul_none (l : Addr) (items : Array Value) (n : Nat) (dd : Option Addr) (sl : Array (Option Value)) (x : Int) (u : Tok) (c0 : (decide (x < -(2 ^ 63)) || decide (x ≥ 2 ^ 63)) = false) (c1 : (items.isEmpty || x == 1) = false) (c2 : (decide (x ≤ 0) || items.isEmpty) = true) :
    Meets (Builtin.«tuple.__mul__» ⟨[.ref l, .int x u], []⟩) (fun _ R s => s.heap.get? l = some { cls := .type "tuple", dict := dd, data := .seq items n, slots := sl } ∧
      R (.ok (.ret (Value.ref s.heap.objs.size))) { s with heap := s.heap.push { cls := Value.type "tuple", data := Data.seq #[] }, toks := s.toks }) :=
  .of_wp fun prog w A R s h => by
    obtain ⟨hp, g, d, tk, os⟩ := s
    obtain ⟨hl, h⟩ := h
    have f1 := AutoSeq1.idx_int
    wp_walk using wpAny_loadPart' hl
    repeat (first
      | (refine wpAny_ite_false (decide_eq_false (by rw [c0]; exact Bool.false_ne_true)) ?_; wp_walk using wpAny_loadPart' hl)
      | (refine wpAny_ite_false (decide_eq_false (by rw [c1]; exact Bool.false_ne_true)) ?_; wp_walk using wpAny_loadPart' hl)
      | (refine wpAny_ite_true (decide_eq_true (by rw [c2])) ?_; wp_walk using wpAny_loadPart' hl))
    exact ⟨_, rfl, h⟩
section
variable {X : Cx}
/-- t * k, k from 0 on -/
def rRepA (K : PySem.W.Frag) : R2 := fun x y H Q => ∃ l k xs, x = .ref l ∧ y = .int k ∧ SqT K H l xs ∧ 0 ≤ k ∧ k ≤ 1000 ∧ xs.length ≤ 1000 ∧ (xs = [] ∨ k = 1 → Q (.ref l) H) ∧
  (xs ≠ [] → k ≠ 1 → ∀ p, H p = none → Q (.ref p) (upd H p (.tup (List.replicate k.toNat xs).flatten)))
theorem op_repA : OpR X (binaryOp .Mult) (rRepA X.K) := by
  rintro pins s σ H x y v u Q I rx ry ⟨l, k, xs, rfl, rfl, hT, k0, k1, hz, q1, q2⟩
  by_cases hbig : xs ≠ [] ∧ 2 ≤ k
  · exact op_repT pins s σ H _ _ v u Q I rx ry ⟨l, k, xs, rfl, rfl, hT, hbig.1, hbig.2, k1, hz, q2 hbig.1 (by omega)⟩
  · cases rx
    obtain ⟨t, rfl⟩ := ry
    obtain ⟨its, r, ⟨⟨cls, dd, data, sl⟩, ho, hc, n, hd⟩, hs⟩ := I.tuple hT
    simp only at hc hd
    subst hc hd
    have hle : its.length = xs.length := r.length.symm
    have c0 : (decide (k < -(2 ^ 63)) || decide (k ≥ 2 ^ 63)) = false := by
      rw [decide_eq_false (by omega), decide_eq_false (by omega)] <;> rfl
    by_cases h1 : xs = [] ∨ k = 1
    · have c1 : (its.toArray.isEmpty || k == 1) = true := by
        rcases h1 with h1 | h1
        · rw [h1] at hle
          have : its = [] := List.eq_nil_of_length_eq_zero hle
          rw [this]; rfl
        · rw [h1]; simp
      refine wpAny_binaryOp_repeat_ref (T := "tuple") (U := "int") (by decide) ⟨_, ho, rfl⟩ (fun s' => typeIs_int s' k t) noFill_tuple_mul F.fills_int_mul F.slot_int_rmul repeat_tuple F.slot_int_index.lookup ?_
      refine call_meets F.slot_int_rmul (typeIs_int s k t) F.entry_int_rmul (F.args_int_rmul_2 _ _) (int_rmul_tuple k t l its.toArray n dd sl) ⟨ho, rfl, ⟨_, ho, rfl⟩, ?_⟩
      refine call_meets F.slot_tuple_mul ⟨_, ho, rfl⟩ F.entry_tuple_mul (F.args_tuple_mul_2 _ _) (tuple_mul_same l its.toArray n dd sl k t c0 c1) ⟨ho, ?_⟩
      exact ⟨.ref l, H, I, rfl, q1 h1⟩
    · have hne : xs ≠ [] := fun e => h1 (.inl e)
      have hk : k = 0 := by
        have : ¬ 2 ≤ k := fun z => hbig ⟨hne, z⟩
        have : k ≠ 1 := fun z => h1 (.inr z)
        omega
      have hi : its.toArray.isEmpty = false := by
        cases its with
        | nil => exact absurd (List.eq_nil_of_length_eq_zero hle.symm) hne
        | cons a b => rfl
      have c1 : (its.toArray.isEmpty || k == 1) = false := by rw [hi, hk]; rfl
      have c2 : (decide (k ≤ 0) || its.toArray.isEmpty) = true := by rw [hk]; rfl
      refine wpAny_binaryOp_repeat_ref (T := "tuple") (U := "int") (by decide) ⟨_, ho, rfl⟩ (fun s' => typeIs_int s' k t) noFill_tuple_mul F.fills_int_mul F.slot_int_rmul repeat_tuple F.slot_int_index.lookup ?_
      refine call_meets F.slot_int_rmul (typeIs_int s k t) F.entry_int_rmul (F.args_int_rmul_2 _ _) (int_rmul_tuple k t l its.toArray n dd sl) ⟨ho, rfl, ⟨_, ho, rfl⟩, ?_⟩
      refine call_meets F.slot_tuple_mul ⟨_, ho, rfl⟩ F.entry_tuple_mul (F.args_tuple_mul_2 _ _) (tuple_mul_none l its.toArray n dd sl k t c0 c1 c2) ⟨ho, ?_⟩
      refine ⟨.ref s.heap.objs.size, _, I.laid (t' := s.toks) (o := .tup (List.replicate k.toNat xs).flatten) (fun b ob q => Heap.get?_push_of_some _ q) (Nat.le_refl _) ?_, rfl, q2 hne (by omega) _ (I.hok.fresh (Nat.le_refl _))⟩
      rw [hk]
      exact ⟨by simp, [], .nil, IsTup.new _ _⟩
/-- * -/
def smallI (i : Int) : Prop := -(2 ^ 64) < i ∧ i < 2 ^ 64
noncomputable instance (i : Int) : Decidable (smallI i) := Classical.propDecidable _
def repD (k : Nat) (xs : List D) : List D := (List.replicate k xs).flatten
open Classical in
noncomputable def mulD : D → D → Sto → Res D
  | .int i, .int j, S => if smallI i ∨ smallI j then .ok (.int (i * j)) S else .bad
  | .tup xs, .int k, S => if 0 ≤ k ∧ k ≤ 1000 ∧ xs.length ≤ 1000 then .ok (.tup (repD k.toNat xs)) S else .bad
  | d, .int k, S => (match lstOf S d with | some xs => if 0 ≤ k ∧ k ≤ 1000 ∧ xs.length ≤ 1000 then .ok (.lst (repD k.toNat xs)) S else .bad | none => .bad)
  | _, _, _ => .bad
def rMulA (K : PySem.W.Frag) : R2 := fun x y H Q => rI CMul (fun i j => .int (i * j)) x y H Q ∨ rRepA K x y H Q ∨ rRep x y H Q
theorem op_mulA : OpR X (binaryOp .Mult) (rMulA X.K) := op_mul.or (op_repA.or op_rep)
theorem RepL.rep {K : PySem.W.Frag} {H : Hp} {m : Mp} {ds : List D} {vs : List V} (r : RepL K H m ds vs) : ∀ k : Nat, RepL K H m (repD k ds) (List.replicate k vs).flatten
  | 0 => .nil
  | k + 1 => by
    show RepL K H m (ds ++ repD k ds) (vs ++ (List.replicate k vs).flatten)
    exact r.append (r.rep k)
theorem repD_nil (k : Nat) : repD k [] = [] := by unfold repD; simp
theorem repD_one (xs : List D) : repD 1 xs = xs := by simp [repD]
theorem o_mul : Op2 (g3 X) X.mg (rMulA X.K) mulD := by
  intro E σ m H S x y v u Q s rx ry p
  unfold mulD at p
  split at p
  · simp only [Rep] at rx ry
    split at p
    · rename_i h
      exact .inl ⟨_, _, rx, ry, h, p m _ H (.refl _ _) s (by simp only [RD, Rep])⟩
    · exact p.elim
  · rename_i xs k
    split at p
    · rename_i h
      have rx0 := rx
      simp only [Rep] at rx ry
      obtain ⟨a, vs, rfl, t, r⟩ := rx
      refine .inr (.inl ⟨a, k, vs, rfl, ry, t.sq, h.1, h.2.1, by rw [r.length]; exact h.2.2, fun e => ?_, fun _ _ q hq => p m _ _ (.new hq) (s.new hq) (.newTup hq (r.rep _))⟩)
      have : repD k.toNat xs = xs := by
        rcases e with e | e
        · have : xs = [] := List.length_eq_zero_iff.1 (by rw [← r.length, e]; rfl)
          rw [this, repD_nil]
        · rw [e]; exact repD_one xs
      rw [this] at p
      exact p m _ H (.refl _ _) s rx0
    · exact p.elim
  · rename_i k hn1 hn2
    simp only [Rep] at ry
    split at p
    · rename_i xs hS
      split at p
      · rename_i h
        obtain ⟨a, vs, rfl, hq, r⟩ := lst_at s rx hS
        refine .inr (.inr ⟨a, k, vs, rfl, ry, hq, by omega, by omega, ?_, fun q hq => p m _ _ (.new hq) (s.new hq) (.newLst s hq (r.rep _))⟩)
        rw [r.length, sizeLine_eq]
        have : xs.length * k.toNat ≤ 1000 * 1000 := Nat.mul_le_mul h.2.2 (by omega)
        omega
      · exact p.elim
    · exact p.elim
  · exact p.elim
end
/-! ### objects of the store change -/
theorem RepO.notTup {G : W3} {H : Hp} {m : Mp} {a : Addr} {o : O} (r : RepO G H m a o) : ∀ xs, H a ≠ some (.tup xs) := by
  intro xs h
  cases o with
  | lst ds => obtain ⟨vs, e, _⟩ := r; rw [h] at e; cases e
  | dS ds => obtain ⟨vs, e, _⟩ := r; rw [h] at e; cases e
  | dP ds => obtain ⟨xs, vs, e, _⟩ := r; rw [h] at e; cases e
  | ins ds => obtain ⟨dx, vs, e, _⟩ := r; rw [h] at e; cases e
theorem Grow.put {m : Mp} {H : Hp} {a : Addr} {u : HO} (ha : a ∈ m.at_) (hk : ∀ xs, H a ≠ some (.tup xs)) : Grow m H m (upd H a u) :=
  ⟨⟨[], by simp, by simp⟩, ⟨[], by simp, by simp⟩, fun b o e hn => by rw [upd_ne (fun z : b = a => hn (by rw [z]; exact ha))]; exact e, fun b xs e => by rw [upd_ne (fun z : b = a => hk xs (by rw [← z]; exact e))]; exact e,
    fun b e => by
      by_cases z : b = a
      · subst z; rw [upd_same]; simp
      · rw [upd_ne z]; exact e⟩
theorem Sim.put {G : W3} {H : Hp} {m : Mp} {S : Sto} (s : Sim G H m S) {n : Nat} {a : Addr} {u : HO} {o : O} (hn : m.at_[n]? = some a) (hk : ∀ xs, H a ≠ some (.tup xs)) (hr : RepO G (upd H a u) m a o) : Sim G (upd H a u) m (S.set n o) := by
  have ha : a ∈ m.at_ := List.mem_of_getElem? hn
  refine ⟨by simp [s.len], s.nd, fun b hb => ⟨(s.hid b hb).1, (Grow.put (u := u) ha hk).live b (s.hid b hb).2⟩, fun k b o' h1 h2 => ?_⟩
  by_cases hkn : k = n
  · subst hkn
    rw [hn] at h1
    cases h1
    have hl : k < S.length := by rw [← s.len]; exact (List.getElem?_eq_some_iff.1 hn).1
    rw [List.getElem?_set_self hl] at h2
    cases h2
    exact hr
  · rw [List.getElem?_set_ne (Ne.symm hkn)] at h2
    have hb : b ≠ a := fun z => by
      subst z
      exact hkn (nd_ix s.nd h1 hn)
    exact RepO.mono (.put ha hk) (fun w e => by rw [upd_ne hb]; exact e) (s.at_ k b o' h1 h2)
/-! ### methods of lists -/
def eMethL (op : D → List D → Sto → Res D) (f : ME) (g : MA) : ME := fun fr S => (f fr S).bind fun d S => match lstOf S d with | none => .bad | some _ => (g fr S).bind fun xs S => op d xs S
def OpM (G : W3) (mg : Str → Option Value) (r : V → List V → Hp → VK → Prop) (sem : D → List D → Sto → Res D) : Prop :=
  ∀ (E : WX) (σ : L2.St) (m : Mp) (H : Hp) (S : Sto) (x : D) (v : V) (xs : List D) (vs : List V) (Q : VK), Sim G H m S → Rep G.K H m x v → RepL G.K H m xs vs → POk (RD G) G mg E σ m H Q (sem x xs S) → r v vs H Q
section
variable {X : Cx} {E : WX} {o e : Expr} {es : List Expr} {f : ME} {g : MA} {apos cpos : Pos} {name : Str} {id : String}
theorem methL_of {op : D → List D → Sto → Res D} {r : V → List V → Hp → VK → Prop} (h1 : OpM (g3 X) X.mg r op) {σ : L2.St} {H : Hp} {Q : VK} (h : tE (g3 X) X.mg E (eMethL op f g) σ H Q) : tBM X.K "list" r (tE (g3 X) X.mg E f) (tA (g3 X) X.mg E g) σ H Q := by
  obtain ⟨m, fr, S, at_, h⟩ := h
  refine ⟨m, fr, S, at_, POk.bind h fun d S1 m1 v H1 e1 g1 s1 r1 p1 => ?_⟩
  split at p1
  · exact p1.elim
  · rename_i ds hS
    obtain ⟨a, vs, rfl, hq, r⟩ := lst_at s1 r1 hS
    refine ⟨.inl ⟨rfl, vs, .of hq⟩, m1, fr, S1, ⟨at_.f.mono g1, s1⟩, POk.bind p1 fun xs S2 m2 us H2 e2 g2 s2 r2 p2 => ?_⟩
    exact h1 E σ m2 H2 S2 d _ xs us Q s2 (r1.mono g2) r2 p2
theorem methL0_of {op : D → List D → Sto → Res D} {r : V → List V → Hp → VK → Prop} (h1 : OpM (g3 X) X.mg r op) {σ : L2.St} {H : Hp} {Q : VK} (h : tE (g3 X) X.mg E (eMethL op f aNil) σ H Q) : tBM0 X.K "list" r (tE (g3 X) X.mg E f) σ H Q := by
  obtain ⟨m, fr, S, at_, h⟩ := h
  refine ⟨m, fr, S, at_, POk.bind h fun d S1 m1 v H1 e1 g1 s1 r1 p1 => ?_⟩
  split at p1
  · exact p1.elim
  · rename_i ds hS
    obtain ⟨a, vs, rfl, hq, r⟩ := lst_at s1 r1 hS
    refine ⟨.inl ⟨rfl, vs, .of hq⟩, ?_⟩
    exact h1 E σ m1 H1 S1 d _ [] [] Q s1 r1 .nil p1
theorem se_methL {op : D → List D → Sto → Res D} {r : V → List V → Hp → VK → Prop} (slot : Slot "list" name id) (hty : typeOf (.builtin id) = pure (.type "method_descriptor")) (hm : MtR X id r) (h1 : OpM (g3 X) X.mg r op) (ho : SE X E o f) (ha : SA X E (e :: es) g)
    (hbase : attributeBase o name X.env (eval o X.env) = eval o X.env := by rfl)
    (hfew : ((backTo cpos (starEach (e :: es) X.env)).all (fun x => !x.1) && (backToKw cpos (keywordEach [] X.env)).all (fun x => x.1.isSome) && decide ((e :: es).length + ([] : List Keyword).length + (if ([] : List Keyword).isEmpty then 0 else 1) < 30)) = true := by rfl)
    (hline : (apos.endLine == cpos.line) = true := by rfl) (hs : starEach (e :: es) X.env = (false, eval e X.env) :: starEach es X.env := by rfl) (hplain : (backTo cpos (starEach es X.env)).any (·.1) = false := by rfl) :
    SE X E (.Call (.Attribute o name apos) (e :: es) [] cpos) (eMethL op f g) := pe_imp (pe_bm PySem.F.plainAttrs_list slot hty hm ho ha hbase hfew hline hs hplain) fun _ _ _ h => methL_of h1 h
theorem se_methL0 {op : D → List D → Sto → Res D} {r : V → List V → Hp → VK → Prop} (slot : Slot "list" name id) (hty : typeOf (.builtin id) = pure (.type "method_descriptor")) (hm : MtR X id r) (h1 : OpM (g3 X) X.mg r op) (ho : SE X E o f)
    (hbase : attributeBase o name X.env (eval o X.env) = eval o X.env := by rfl) (hline : (apos.endLine == cpos.line) = true := by rfl) :
    SE X E (.Call (.Attribute o name apos) [] [] cpos) (eMethL op f aNil) := pe_imp (pe_bm0 PySem.F.plainAttrs_list slot hty hm ho hbase hline) fun _ _ _ h => methL0_of h1 h
def appendD : D → List D → Sto → Res D
  | .ref n, [y], S => (match S[n]? with | some (.lst ds) => if ds.length < sz then .ok .non (S.set n (.lst (ds ++ [y]))) else .bad | _ => .bad)
  | _, _, _ => .bad
theorem o_append : OpM (g3 X) X.mg rAppend appendD := by
  intro E σ m H S x v xs vs Q s rx r p
  unfold appendD at p
  split at p
  · rename_i n y
    split at p
    · rename_i ds hS
      split at p
      · rename_i hl
        simp only [Rep] at rx
        obtain ⟨a, rfl, ha⟩ := rx
        simp only [RepL] at r
        obtain ⟨w, rr, rfl, r1, rfl⟩ := r
        obtain ⟨us, hq, r2⟩ := s.lst ha hS
        have hk : ∀ xs, H a ≠ some (.tup xs) := fun xs z => by rw [hq] at z; cases z
        have g := Grow.put (u := .lst (us ++ [w])) (List.mem_of_getElem? ha) hk
        refine ⟨a, us, w, rfl, rfl, hq, by rw [r2.length]; exact sz_lt hl, p m _ _ g (s.put ha hk ⟨_, upd_same, ?_⟩) (by simp only [RD, Rep])⟩
        exact RepL.append (r2.mono g) (.one (r1.mono g))
      · exact p.elim
    · exact p.elim
  · exact p.elim
open PySem.MeetsSeq PySem.MeetsSeq2 PySem.MeetsSeq3 PySem.AutoSeq1 in
theorem list_ext_tup (l : Addr) (items : Array Value) (n : Nat) (b : Addr) (items2 : Array Value) (n2 : Nat) (dd : Option Addr) (sl : Array (Option Value)) (hs0 : ¬(!items.isEmpty && Builtin.List.listTooLong (items.size + items2.size)) = true) (hs1 : items.size ≤ sizeLine) (hs2 : items.size + items2.size ≤ sizeLine + 1) :
    Meets (Builtin.«list.extend» ⟨[.ref l, .ref b], []⟩) (fun _ R s => s.heap.get? l = some { cls := .type "list", dict := none, data := .seq items n, slots := #[] } ∧ s.heap.get? b = some { cls := .type "tuple", dict := dd, data := .seq items2 n2, slots := sl } ∧
      R (.ok (.ret Value.none)) { s with heap := s.heap.update l (Obj.mapSeq fun x => x ++ items2), toks := s.toks }) :=
  .of_wp fun prog w A R s h => by
    obtain ⟨hp, g, d, tk, os⟩ := s
    obtain ⟨hl, hb, h⟩ := h
    have f1 := idx_int
    have f2 := AutoSeq1.sub_tuple_tuple
    have f3 := AutoSeq1.sub_list_list
    have f4 := AutoSeq1.sub_tuple_list
    have f5 := AutoSeq1.sub_list_tuple
    have hz' : (items ++ items2).size ≤ sizeLine + 1 := by
      rw [Array.size_append]
      exact hs2
    wp_walk using (wpAny_updateSeq hl rfl (hz := hs1) (_hz' := hz')), wpAny_loadPart' hl, wpAny_loadPart' hb
    exact ⟨_, rfl, h⟩
/-- xs.extend(e), e a list or a tuple -/
def rExtA (K : PySem.W.Frag) : V → List V → Hp → VK → Prop := fun x vs H Q => rExtend x vs H Q ∨ ∃ l b xs zs, x = .ref l ∧ vs = [.ref b] ∧ H l = some (.lst xs) ∧ SqT K H b zs ∧ xs.length + zs.length ≤ sizeLine ∧ Q .non (upd H l (.lst (xs ++ zs)))
theorem mt_extA : MtR X "list.extend" (rExtA X.K) := by
  refine MtR.or mt_extend ?_
  rintro pins s σ H x vs v us Q I rx rv ⟨l, b, xs, zs, rfl, rfl, hH, hB, hz, q⟩
  cases rx
  obtain ⟨u, rfl, ru⟩ := rv.one
  cases ru
  obtain ⟨z, its, n, r, hl, e⟩ := I.lstM hH
  obtain ⟨its2, r2, ⟨⟨cls, dd, data, sl⟩, ho, hc, n2, hd⟩, hs⟩ := I.tuple hB
  simp only at hc hd
  subst hc hd
  have hl2 := r2.length
  have hsz : its.toArray.size + its2.toArray.size ≤ sizeLine := by rw [List.size_toArray, List.size_toArray]; omega
  have hlong : ¬ (!its.toArray.isEmpty && Builtin.List.listTooLong (its.toArray.size + its2.toArray.size)) = true := by
    rw [notLongL hsz, Bool.and_false]; simp
  refine call_meets F.slot_list_extend ⟨_, e, rfl⟩ F.entry_list_extend (F.args_list_extend_2 _ _) (list_ext_tup l its.toArray n b its2.toArray n2 dd sl hlong (by rw [List.size_toArray]; omega) (by omega)) ⟨e, ho, ?_⟩
  exact ⟨.non, _, I.lset (its' := its ++ its2) hH e (by simp) (r.append r2) (by rw [List.length_append]; omega), rfl, q⟩
def extendD : D → List D → Sto → Res D
  | .ref n, [y], S => (match S[n]?, seqOf S y with | some (.lst ds), some es => (match y with | .fz _ => .bad | _ => if ds.length + es.length ≤ sz then .ok .non (S.set n (.lst (ds ++ es))) else .bad) | _, _ => .bad)
  | _, _, _ => .bad
theorem o_extend : OpM (g3 X) X.mg (rExtA X.K) extendD := by
  intro E σ m H S x v xs vs Q s rx r p
  unfold extendD at p
  split at p
  · rename_i n y
    split at p
    · rename_i ds es hS hY
      split at p
      · exact p.elim
      · rename_i hfz
        split at p
        · rename_i hl
          simp only [Rep] at rx
          obtain ⟨a, rfl, ha⟩ := rx
          simp only [RepL] at r
          obtain ⟨w, rr, rfl, r1, rfl⟩ := r
          obtain ⟨us, hq, r2⟩ := s.lst ha hS
          have hk : ∀ xs, H a ≠ some (.tup xs) := fun xs z => by rw [hq] at z; cases z
          by_cases hL : lstOf S y = some es
          · obtain ⟨b, ws, rfl, hb, rb⟩ := lst_at s r1 hL
            have g := Grow.put (u := .lst (us ++ ws)) (List.mem_of_getElem? ha) hk
            exact .inl ⟨a, b, us, ws, rfl, rfl, hq, hb, by rw [r2.length, rb.length]; exact sz_ok hl, p m _ _ g (s.put ha hk ⟨_, upd_same, RepL.append (r2.mono g) (rb.mono g)⟩) (by simp only [RD, Rep])⟩
          · cases y with
            | tup zs =>
              cases hY
              simp only [Rep] at r1
              obtain ⟨b, ws, rfl, t, rb⟩ := r1
              have g := Grow.put (u := .lst (us ++ ws)) (List.mem_of_getElem? ha) hk
              exact .inr ⟨a, b, us, ws, rfl, rfl, hq, t.sq, by rw [r2.length, rb.length]; exact sz_ok hl, p m _ _ g (s.put ha hk ⟨_, upd_same, RepL.append (r2.mono g) (rb.mono g)⟩) (by simp only [RD, Rep])⟩
            | fz zs => exact absurd rfl (hfz zs)
            | lst zs => exact absurd hY hL
            | ref k => exact absurd hY hL
            | _ => cases hY
        · exact p.elim
    · exact p.elim
  · exact p.elim
def popD : D → List D → Sto → Res D
  | .ref n, [], S => (match S[n]? with | some (.lst ds) => (match ds[ds.length - 1]? with | some y => .ok y (S.set n (.lst ds.dropLast)) | none => .bad) | _ => .bad)
  | _, _, _ => .bad
theorem RepL.dropLast {K : PySem.W.Frag} {H : Hp} {m : Mp} {ds : List D} {vs : List V} (h : RepL K H m ds vs) : RepL K H m ds.dropLast vs.dropLast := by
  rw [List.dropLast_eq_take, List.dropLast_eq_take, h.length]
  exact h.take _
theorem o_pop : OpM (g3 X) X.mg rPop popD := by
  intro E σ m H S x v xs vs Q s rx r p
  unfold popD at p
  split at p
  · rename_i n
    split at p
    · rename_i ds hS
      split at p
      · rename_i y hy
        simp only [Rep] at rx
        obtain ⟨a, rfl, ha⟩ := rx
        simp only [RepL] at r
        subst r
        obtain ⟨us, hq, r2⟩ := s.lst ha hS
        have hk : ∀ xs, H a ≠ some (.tup xs) := fun xs z => by rw [hq] at z; cases z
        obtain ⟨w, hw, rw'⟩ := r2.get hy
        have g := Grow.put (u := .lst us.dropLast) (List.mem_of_getElem? ha) hk
        refine ⟨a, us, w, rfl, rfl, hq, by rw [r2.length]; exact hw, p m _ _ g (s.put ha hk ⟨_, upd_same, (r2.mono g).dropLast⟩) (rw'.mono g)⟩
      · exact p.elim
    · exact p.elim
  · exact p.elim
/-- xs.index(x) -/
def findP (p : PyData) : Nat → List PyData → Option Nat
  | _, [] => none
  | i, q :: qs => if PyData.eqv q p then some i else findP p (i + 1) qs
theorem findP_spec {p : PyData} : ∀ {qs : List PyData} {i j : Nat}, findP p i qs = some j → ∃ k z, j = i + k ∧ qs[k]? = some z ∧ PyData.eqv z p = true ∧ ∀ (l : Nat) z', l < k → qs[l]? = some z' → PyData.eqv z' p = false
  | [], i, j, h => by cases h
  | q :: qs, i, j, h => by
    simp only [findP] at h
    split at h
    · rename_i hq
      cases h
      exact ⟨0, q, by omega, rfl, hq, fun l z' hl => by omega⟩
    · rename_i hq
      obtain ⟨k, z, e1, e2, e3, e4⟩ := findP_spec h
      refine ⟨k + 1, z, by omega, by simpa using e2, e3, fun l z' hl hz => ?_⟩
      cases l with
      | zero => simp at hz; subst hz; simpa using hq
      | succ l => exact e4 l z' (by omega) (by simpa using hz)
def indexD (d : D) (xs : List D) (S : Sto) : Res D := match xs with
  | [y] => (match dP S d, dP S y with | some (.list qs), some p => (match findP p 0 qs with | some j => .ok (.int (j : Nat)) S | none => .bad) | _, _ => .bad)
  | _ => .bad
theorem o_index : OpM (g3 X) X.mg (rIndexD X.K) indexD := by
  intro E σ m H S x v xs vs Q s rx r p
  unfold indexD at p
  split at p
  · rename_i y
    split at p
    · rename_i qs pp e1 e2
      split at p
      · rename_i j hj
        simp only [RepL] at r
        obtain ⟨w, rr, rfl, r1, rfl⟩ := r
        obtain ⟨d1, s1⟩ := dP_dp s rx e1
        obtain ⟨d2, s2⟩ := dP_dp s r1 e2
        obtain ⟨k, z, f1, f2, f3, f4⟩ := findP_spec hj
        have : j = k := by omega
        subst this
        have hv : ∃ a, v = .ref a := by cases d1; exact ⟨_, rfl⟩
        obtain ⟨a, rfl⟩ := hv
        exact ⟨a, w, pp, qs, j, z, rfl, rfl, d1, d2, s1, s2, f2, f3, f4, p m _ H (.refl _ _) s (by simp only [RD, Rep])⟩
      · exact p.elim
    · exact p.elim
  · exact p.elim
end
/-! ### tuple(range(..)), list(range(..)) -/
abbrev MR := Fr → Sto → Res (Int × Int)
def RR : Hp → Mp → Int × Int → Int × Int → Prop := fun _ _ a b => b = a
def tR (G : W3) (mg : Str → Option Value) (E : WX) (f : MR) : L2.St → Hp → (Int → Int → Hp → Prop) → Prop := fun σ H Q => ∃ m fr S, At G H m σ fr S ∧ POk RR G mg E σ m H (fun ab H => Q ab.1 ab.2 H) (f fr S)
def SR (X : Cx) (E : WX) (e : Expr) (f : MR) : Prop := PRg X e (tR (g3 X) X.mg E f)
def r1 (f : ME) : MR := fun fr S => (f fr S).bind fun d S => match d with | .int n => .ok (0, n) S | _ => .bad
def r2 (f g : ME) : MR := fun fr S => (f fr S).bind fun d S => (g fr S).bind fun e S => match d, e with | .int i, .int j => .ok (i, j) S | _, _ => .bad
section
variable {X : Cx} {E : WX} {a b e : Expr} {f g : ME} {p pos : Pos}
theorem prg_imp {t t' : L2.St → Hp → (Int → Int → Hp → Prop) → Prop} (h : PRg X e t) (w : ∀ σ H Q, t' σ H Q → t σ H Q) : PRg X e t' := fun pins s σ H Q I q => h pins s σ H Q I (w σ H Q q)
theorem sr_1 (hg : Gl X "range") (hm : X.mg "range" = none) (ha : SE X E a f) (na : starEach [a] X.env = (false, eval a X.env) :: starEach [] X.env := by rfl) : SR X E (.Call (.Name "range" p) [a] [] pos) (r1 f) :=
  prg_imp (prg_1 hg hm ha na) fun σ H Q h => by
    obtain ⟨m, fr, S, at_, h⟩ := h
    refine ⟨m, fr, S, at_, POk.bind h fun d S1 m1 v H1 e1 g1 s1 rr p1 => ?_⟩
    cases d with
    | int n => simp only [RD, Rep] at rr; exact ⟨n, rr, p1 m1 (0, n) H1 (.refl _ _) s1 rfl⟩
    | _ => exact p1.elim
theorem sr_2 (hg : Gl X "range") (hm : X.mg "range" = none) (ha : SE X E a f) (hb : SE X E b g) (na : starEach [a, b] X.env = (false, eval a X.env) :: starEach [b] X.env := by rfl)
    (nb : starEach [b] X.env = (false, eval b X.env) :: starEach [] X.env := by rfl) (hp : (backTo pos (starEach [b] X.env)).any (·.1) = false := by rfl) : SR X E (.Call (.Name "range" p) [a, b] [] pos) (r2 f g) :=
  prg_imp (prg_2 hg hm ha hb na nb hp) fun σ H Q h => by
    obtain ⟨m, fr, S, at_, h⟩ := h
    refine ⟨m, fr, S, at_, POk.bind h fun d S1 m1 v H1 e1 g1 s1 rr p1 => ?_⟩
    refine ⟨m1, fr, S1, ⟨at_.f.mono g1, s1⟩, POk.bind p1 fun d2 S2 m2 u H2 e2 g2 s2 rr2 p2 => ?_⟩
    split at p2
    · simp only [RD, Rep] at rr rr2; exact ⟨_, _, rr, rr2, p2 m2 (_, _) H2 (.refl _ _) s2 rfl⟩
    · exact p2.elim
def rngOk (a b : Int) : Prop := 0 ≤ a ∧ a ≤ 1000000 ∧ 0 ≤ b ∧ b ≤ 1000000
noncomputable instance (a b : Int) : Decidable (rngOk a b) := Classical.propDecidable _
theorem rngOk.ok {a b : Int} (h : rngOk a b) : RgOk a b := by
  unfold rngOk at h
  exact RgOk.of_le h.1 (by omega) (by omega) h.2.2.1
theorem RepL.rng {K : PySem.W.Frag} {H : Hp} {m : Mp} (a b : Int) : RepL K H m (rngD a (b - a).toNat) (rgV a b) := by
  have : ∀ (xs : List Nat), RepL K H m (xs.map fun (i : Nat) => D.int (a + i)) (xs.map fun i => V.int (a + (i : Nat))) := by
    intro xs
    induction xs with
    | nil => exact .nil
    | cons x xs ih => exact .cons (by simp only [Rep]) ih
  exact this _
noncomputable def eTupR (f : MR) : ME := fun fr S => (f fr S).bind fun ab S => if rngOk ab.1 ab.2 then .ok (.tup (rngD ab.1 (ab.2 - ab.1).toNat)) S else .bad
noncomputable def eLstR (f : MR) : ME := fun fr S => (f fr S).bind fun ab S => if rngOk ab.1 ab.2 then .ok (.lst (rngD ab.1 (ab.2 - ab.1).toNat)) S else .bad
theorem se_tupR {f : MR} (hc : X.calm = true) (hg : Gl X "tuple") (hm : X.mg "tuple" = none) (he : SR X E e f) (na : starEach [e] X.env = (false, eval e X.env) :: starEach [] X.env := by rfl) : SE X E (.Call (.Name "tuple" p) [e] [] pos) (eTupR f) :=
  pe_imp (pe_tupRg hc hg hm he na) fun σ H Q h => by
    obtain ⟨m, fr, S, at_, h⟩ := h
    refine ⟨m, fr, S, at_, POk.bind h fun d S1 m1 v H1 e1 g1 s1 rr p1 => ?_⟩
    unfold RR at rr
    subst rr
    split at p1
    · rename_i ho
      exact ⟨ho.ok, fun q hq => p1 m1 _ _ (.new hq) (s1.new hq) (.newTup hq (.rng _ _))⟩
    · exact p1.elim
theorem se_lstR {f : MR} (hc : X.calm = true) (hg : Gl X "list") (hm : X.mg "list" = none) (he : SR X E e f) (na : starEach [e] X.env = (false, eval e X.env) :: starEach [] X.env := by rfl) : SE X E (.Call (.Name "list" p) [e] [] pos) (eLstR f) :=
  pe_imp (pe_listRg hc hg hm he na) fun σ H Q h => by
    obtain ⟨m, fr, S, at_, h⟩ := h
    refine ⟨m, fr, S, at_, POk.bind h fun d S1 m1 v H1 e1 g1 s1 rr p1 => ?_⟩
    unfold RR at rr
    subst rr
    split at p1
    · rename_i ho
      exact ⟨ho.ok, fun q hq => p1 m1 _ _ (.new hq) (s1.new hq) (.newLst s1 hq (.rng _ _))⟩
    · exact p1.elim
end
end Py
set_option maxRecDepth 100000
set_option maxHeartbeats 1000000
namespace Py
open PySem PySem.Spec PyProof.Rows L2

/-! ### what a def's text needs of the module -/
/-- a def that can be called: at most k calls deep, n arguments, by F -/
structure Callee (P : Program) (w : World) (K : PySem.W.Frag) (mg : Str → Option Value) (base : Heap) (k : Nat) (x : Str) (n : Nat) (F : List D → Sto → Res D) : Prop where
  ar : ∀ ds S, F ds S ≠ .bad → ds.length = n
  ex : ∃ fa fd ps, FnOk P w K mg base (L2N.CX P w) k fa fd ps (spF ⟨P, w, K⟩ mg n F) ∧ mg x = some (.ref fa) ∧ PySem.W.keepIn K (.ref fa) = true ∧ Binds K fd ps []
theorem se_fn {X : Cx} {E : WX} {e : Expr} {es : List Expr} {g : MA} {pos : Pos} {x : Str} {p : Pos} {k k' n : Nat} {F : List D → Sto → Res D} (C : Callee X.prog X.w X.K X.mg X.base k' x n F) (hr : Room k X.A) (hk : k' ≤ k) (hg : Gl X x) (tk : L2N.Takes X E) (ha : SA X E (e :: es) g)
    (hdb : (x == ("__debug__" : Str)) = false := by decide) (he : starEach (e :: es) X.env = (false, eval e X.env) :: starEach es X.env := by rfl) (hpl : (backTo pos (starEach es X.env)).any (·.1) = false := by rfl) :
    SE X E (.Call (.Name x p) (e :: es) [] pos) (eCall F g) := by
  obtain ⟨fa, fd, ps, h1, h2, h3, h4⟩ := C.ex
  exact se_call (h1.mono hk) C.ar hr hg h2 h3 h4 tk ha hdb he hpl
/-- f() -/
theorem se_fn0 {X : Cx} {E : WX} {pos : Pos} {x : Str} {p : Pos} {k k' : Nat} {F : List D → Sto → Res D} (C : Callee X.prog X.w X.K X.mg X.base k' x 0 F) (hr : Room k X.A) (hk : k' ≤ k) (hg : Gl X x) (tk : L2N.Takes X E) (hdb : (x == ("__debug__" : Str)) = false := by decide) :
    SE X E (.Call (.Name x p) [] [] pos) (eCall F aNil) := by
  obtain ⟨fa, fd, ps, h1, h2, h3, h4⟩ := C.ex
  constructor
  rintro pins s σ H Q I ⟨m, fr, S, at_, q⟩
  have q' : POk (RD (g3 X)) (g3 X) X.mg E σ m H Q (F [] S) := q
  have hsp : spF (g3 X) X.mg 0 F [] H Q (WE E σ) := ⟨rfl, m, S, [], at_.s, .nil, q'.sigma fun c d H h => h⟩
  apply wpAny_Call_Name_kw
  refine ld_glob I hg h2 ?_ hdb
  exact PySem.W.callWith_K0 I.kIn h3 (run_fnS (us := []) (E := WE E) (h1.mono hk) hr h4 (L2N.passAt tk σ) I .nil hsp)
theorem callee_mk {P : Program} {w : World} {K : PySem.W.Frag} {mg : Str → Option Value} {base : Heap} {k : Nat} {x qual : Str} {st : Stmt} {f : Addr} {fd : FuncData} {ps : List Str} {F : List D → Sto → Res D} (Fn : Fun K x qual st f fd) (hm : mg x = some (.ref f)) (hb : Binds K fd ps [])
    (h : FnOk P w K mg base (L2N.CX P w) k f fd ps (spF ⟨P, w, K⟩ mg ps.length F)) (ar : ∀ ds S, F ds S ≠ .bad → ds.length = ps.length) : Callee P w K mg base k x ps.length F :=
  ⟨ar, f, fd, ps, h, hm, Fn.kp, hb⟩
/-- an own exception class that is raised -/
def ExcF (K : PySem.W.Frag) (mg : Str → Option Value) (x : Str) : Prop := ∃ C, PySem.W.excIn K C [.type "ValueError", .type "Exception", .type "BaseException", .type "object"] "ValueError.__new__" = true ∧ mg x = some (.ref C) ∧ PySem.W.keepIn K (.ref C) = true ∧
  PySem.W.subIn K (.ref C) (.type "BaseException") = some true ∧ PySem.W.typeIn K (.ref C) = some (.type "type")
theorem ss_raiseE {X : Cx} {E : WX} {x m : Str} {j : Nat} {p p2 pos' pos : Pos} (F : ExcF X.K X.mg x) (hc : X.calm = true) (tk : L2N.Takes X E) (hg : Gl X x) (hdb : (x == ("__debug__" : Str)) = false := by decide) :
    SS X E (.Raise (some (.Call (.Name x p) [.Constant (.str m) j p2] [] pos')) none pos) (sRaise x) := by
  obtain ⟨C, h1, h2, h3, h4, h5⟩ := F
  exact ss_raise hc tk PySem.F.excBase_ValueError h1 h2 h3 (raises_own h4 h5) hg hdb
theorem takesF {X : Cx} : L2N.Takes X EF := fun u s' x => by
  obtain ⟨a, B, sI, pins, σ, H, cls, d, h1, h2, h3, h4, h5, h6, h7, h8, h9⟩ := x
  exact h9.elim
/-! ### leaving a def: what was made in it goes out of the store -/
mutual
def D.lower (k : Nat) : D → Bool
  | .tup ds => lowerL k ds
  | .lst ds => lowerL k ds
  | .fz ds => lowerL k ds
  | .ref n => decide (n < k)
  | _ => true
def lowerL (k : Nat) : List D → Bool
  | [] => true
  | d :: ds => d.lower k && lowerL k ds
end
def O.lower (k : Nat) : O → Bool
  | .lst ds => lowerL k ds
  | .dS kvs => lowerL k (kvs.map (·.2))
  | .dP kvs => lowerL k (kvs.map (·.2))
  | .ins fs => lowerL k (fs.map (·.2))
section
variable {K : PySem.W.Frag} {H : Hp} {m : Mp}
mutual
theorem Rep.lower : ∀ (d : D) (v : V), Rep K H m d v → d.lower m.at_.length = true
  | .non, v, h => by simp only [D.lower]
  | .bl b, v, h => by simp only [D.lower]
  | .int i, v, h => by simp only [D.lower]
  | .str x, v, h => by simp only [D.lower]
  | .tup ds, v, h => by
    simp only [Rep] at h
    obtain ⟨a, vs, e, t, r⟩ := h
    simp only [D.lower]
    exact RepL.lower ds vs r
  | .lst ds, v, h => by
    simp only [Rep] at h
    obtain ⟨a, vs, e, hn, t, r⟩ := h
    simp only [D.lower]
    exact RepL.lower ds vs r
  | .fz ds, v, h => by
    simp only [Rep] at h
    obtain ⟨a, vs, e, t, r⟩ := h
    simp only [D.lower]
    exact RepL.lower ds vs r
  | .ref n, v, h => by
    simp only [Rep] at h
    obtain ⟨a, e, q⟩ := h
    simp only [D.lower]
    exact decide_eq_true (List.getElem?_eq_some_iff.1 q).1
  | .adr a, v, h => by simp only [D.lower]
  | .ty n, v, h => by simp only [D.lower]
theorem RepL.lower : ∀ (ds : List D) (vs : List V), RepL K H m ds vs → lowerL m.at_.length ds = true
  | [], vs, h => by simp only [lowerL]
  | d :: ds, vs, h => by
    simp only [RepL] at h
    obtain ⟨v, r, e, h1, h2⟩ := h
    simp only [lowerL, Bool.and_eq_true]
    exact ⟨Rep.lower d v h1, RepL.lower ds r h2⟩
end
end
/-- the store's first k places alone -/
abbrev Mp.cut (m : Mp) (k : Nat) (hid : List Addr) : Mp := ⟨m.at_.take k, hid⟩
section
variable {K : PySem.W.Frag} {H : Hp} {m : Mp} {k : Nat} {hid : List Addr}
mutual
theorem Rep.cut (hh : ∀ a ∈ hid, a ∈ m.hid) : ∀ (d : D) (v : V), Rep K H m d v → d.lower k = true → Rep K H (m.cut k hid) d v
  | .non, v, h, _ => by simpa only [Rep] using h
  | .bl b, v, h, _ => by simpa only [Rep] using h
  | .int i, v, h, _ => by simpa only [Rep] using h
  | .str x, v, h, _ => by simpa only [Rep] using h
  | .tup ds, v, h, b => by
    simp only [Rep] at h ⊢
    simp only [D.lower] at b
    obtain ⟨a, vs, e, t, r⟩ := h
    exact ⟨a, vs, e, t, RepL.cutS hh ds vs r b⟩
  | .lst ds, v, h, b => by
    simp only [Rep] at h ⊢
    simp only [D.lower] at b
    obtain ⟨a, vs, e, hn, t, r⟩ := h
    exact ⟨a, vs, e, ⟨fun z => hn.1 (List.mem_of_mem_take z), fun z => hn.2 (hh a z)⟩, t, RepL.cutS hh ds vs r b⟩
  | .fz ds, v, h, b => by
    simp only [Rep] at h ⊢
    simp only [D.lower] at b
    obtain ⟨a, vs, e, t, r⟩ := h
    refine ⟨a, vs, e, ?_, RepL.cutS hh ds vs r b⟩
    rcases t with ⟨hn, t⟩ | t
    · exact .inl ⟨fun z => hn (List.mem_of_mem_take z), t⟩
    · exact .inr t
  | .ref n, v, h, b => by
    simp only [Rep] at h ⊢
    simp only [D.lower, decide_eq_true_eq] at b
    obtain ⟨a, e, q⟩ := h
    exact ⟨a, e, by rw [List.getElem?_take_of_lt b]; exact q⟩
  | .adr a, v, h, _ => by simpa only [Rep] using h
  | .ty n, v, h, _ => by simpa only [Rep] using h
theorem RepL.cutS (hh : ∀ a ∈ hid, a ∈ m.hid) : ∀ (ds : List D) (vs : List V), RepL K H m ds vs → lowerL k ds = true → RepL K H (m.cut k hid) ds vs
  | [], vs, h, _ => by simpa only [RepL] using h
  | d :: ds, vs, h, b => by
    simp only [RepL] at h ⊢
    simp only [lowerL, Bool.and_eq_true] at b
    obtain ⟨v, r, e, h1, h2⟩ := h
    exact ⟨v, r, e, Rep.cut hh d v h1 b.1, RepL.cutS hh ds r h2 b.2⟩
end
end
mutual
theorem key_below (k : Nat) : ∀ (d : D) (q : NestedKey), keyOf d = some q → d.lower k = true
  | .non, q, e => by simp only [D.lower]
  | .bl b, q, e => by simp only [D.lower]
  | .int i, q, e => by simp only [D.lower]
  | .str x, q, e => by simp only [D.lower]
  | .tup ds, q, e => by
    simp only [keyOf] at e
    cases e1 : keysOf ds with
    | none => rw [e1] at e; cases e
    | some ks => simp only [D.lower]; exact keys_below k ds ks e1
  | .lst ds, q, e => by simp [keyOf] at e
  | .fz ds, q, e => by simp [keyOf] at e
  | .ref n, q, e => by simp [keyOf] at e
  | .adr a, q, e => by simp only [D.lower]
  | .ty a, q, e => by simp only [D.lower]
theorem keys_below (k : Nat) : ∀ (ds : List D) (qs : List NestedKey), keysOf ds = some qs → lowerL k ds = true
  | [], qs, e => by simp only [lowerL]
  | d :: ds, qs, e => by
    simp only [keysOf] at e
    split at e
    · rename_i q qs' e1 e2
      simp only [lowerL, Bool.and_eq_true]
      exact ⟨key_below k d q e1, keys_below k ds qs' e2⟩
    · cases e
end
theorem RepO.lower {G : W3} {H : Hp} {m : Mp} {a : Addr} {o : O} (r : RepO G H m a o) : o.lower m.at_.length = true := by
  cases o with
  | lst ds => obtain ⟨vs, e, r⟩ := r; exact RepL.lower _ _ r
  | dS ds => obtain ⟨vs, e, r⟩ := r; exact RepL.lower _ _ r
  | dP ds => obtain ⟨xs, vs, e, k1, k2, r, k3⟩ := r; exact RepL.lower _ _ r
  | ins ds => obtain ⟨dx, vs, e, r⟩ := r; exact RepL.lower _ _ r
theorem RepO.cut {G : W3} {H : Hp} {m : Mp} {k : Nat} {hid : List Addr} {a : Addr} {o : O} (hh : ∀ a ∈ hid, a ∈ m.hid) (r : RepO G H m a o) (b : o.lower k = true) : RepO G H (m.cut k hid) a o := by
  cases o with
  | lst ds => obtain ⟨vs, e, r⟩ := r; exact ⟨vs, e, RepL.cutS hh _ _ r b⟩
  | dS ds => obtain ⟨vs, e, r⟩ := r; exact ⟨vs, e, RepL.cutS hh _ _ r b⟩
  | dP ds =>
    obtain ⟨xs, vs, e, k1, k2, r, k3⟩ := r
    refine ⟨xs, vs, e, k1, k2, RepL.cutS hh _ _ r b, fun x hx => ?_⟩
    obtain ⟨hd, d, q1, q2⟩ := k3 x hx
    exact ⟨hd, d, q1, Rep.cut hh d _ q2 (key_below k d _ q1)⟩
  | ins ds => obtain ⟨dx, vs, e, r⟩ := r; exact ⟨dx, vs, e, RepL.cutS hh _ _ r b⟩
/-- what was in the store ahead is as it was, or speaks of nothing new -/
def KeptS (S S2 : Sto) : Prop := S.length ≤ S2.length ∧ ∀ (i : Nat) o, i < S.length → S2[i]? = some o → S[i]? = some o ∨ o.lower S.length = true
theorem Sim.cut {G : W3} {H H2 : Hp} {m m2 : Mp} {S S2 : Sto} (s : Sim G H m S) (s2 : Sim G H2 m2 S2) (g : Grow m H m2 H2) (kp : KeptS S S2) : Sim G H2 (m2.cut S.length m.hid) (S2.take S.length) ∧ Grow m H (m2.cut S.length m.hid) H2 := by
  obtain ⟨ex, q, fx⟩ := g.pre
  obtain ⟨hx, q2, fx2⟩ := g.hid
  have hh : ∀ a ∈ m.hid, a ∈ m2.hid := fun a ha => by rw [q2]; exact List.mem_append_right _ ha
  have ht : m2.at_.take S.length = m.at_ := by rw [q, ← s.len, List.take_left]
  refine ⟨⟨?_, ?_, fun a ha => ⟨fun z => (s2.hid a (hh a ha)).1 (List.mem_of_mem_take z), (s2.hid a (hh a ha)).2⟩, fun n a o h1 h2 => ?_⟩, ⟨⟨[], by show m2.at_.take S.length = _; rw [ht]; simp, by simp⟩, ⟨[], by simp, by simp⟩, g.keep, g.tups, g.live⟩⟩
  · show (m2.at_.take S.length).length = _
    rw [ht, List.length_take, s.len]
    have := kp.1
    omega
  · show (m2.at_.take S.length).Nodup
    rw [ht]; exact s.nd
  · have h1 : (m2.at_.take S.length)[n]? = some a := h1
    have hn : n < S.length := by
      have := (List.getElem?_eq_some_iff.1 h1).1
      rw [List.length_take] at this
      omega
    rw [List.getElem?_take_of_lt hn] at h1 h2
    have r := s2.at_ n a o h1 h2
    refine r.cut hh ?_
    rcases kp.2 n o hn h2 with h | h
    · have ha : m.at_[n]? = some a := by
        rw [q, List.getElem?_append_left (by rw [s.len]; exact hn)] at h1
        exact h1
      have := (s.at_ n a o ha h).lower
      rw [s.len] at this
      exact this
    · exact h
mutual
/-- d, its new lists by value -/
inductive Dem (k : Nat) (S : Sto) : D → D → Prop
  | same {d : D} : d.lower k = true → Dem k S d d
  | tup {ds es : List D} : DemL k S ds es → Dem k S (.tup ds) (.tup es)
  | lst {ds es : List D} : DemL k S ds es → Dem k S (.lst ds) (.lst es)
  | ref {n : Nat} {ds es : List D} : k ≤ n → S[n]? = some (.lst ds) → DemL k S ds es → Dem k S (.ref n) (.lst es)
inductive DemL (k : Nat) (S : Sto) : List D → List D → Prop
  | nil : DemL k S [] []
  | cons {d e : D} {ds es : List D} : Dem k S d e → DemL k S ds es → DemL k S (d :: ds) (e :: es)
end
theorem DemL.same {k : Nat} {S : Sto} : ∀ {ds : List D}, lowerL k ds = true → DemL k S ds ds
  | [], _ => .nil
  | d :: ds, h => by
    simp only [lowerL, Bool.and_eq_true] at h
    exact .cons (.same h.1) (DemL.same h.2)
section
variable {G : W3} {H : Hp} {m : Mp} {S : Sto} {k : Nat} {hid : List Addr}
mutual
theorem Rep.dem (s : Sim G H m S) (hh : ∀ a ∈ hid, a ∈ m.hid) : ∀ {d e : D} {v : V}, Dem k S d e → Rep G.K H m d v → Rep G.K H (m.cut k hid) e v
  | _, _, v, .same b, h => Rep.cut hh _ v h b
  | _, _, v, .tup q, h => by
    simp only [Rep] at h ⊢
    obtain ⟨a, vs, e, t, r⟩ := h
    exact ⟨a, vs, e, t, RepL.dem s hh q r⟩
  | _, _, v, .lst q, h => by
    simp only [Rep] at h ⊢
    obtain ⟨a, vs, e, hn, t, r⟩ := h
    exact ⟨a, vs, e, ⟨fun z => hn.1 (List.mem_of_mem_take z), fun z => hn.2 (hh a z)⟩, t, RepL.dem s hh q r⟩
  | _, _, v, .ref (n := n) hk hS q, h => by
    simp only [Rep] at h ⊢
    obtain ⟨a, e, ha⟩ := h
    obtain ⟨vs, t, r⟩ := s.lst ha hS
    refine ⟨a, vs, e, ⟨fun z => ?_, fun z => (s.hid a (hh a z)).1 (List.mem_of_getElem? ha)⟩, t, RepL.dem s hh q r⟩
    obtain ⟨j, hj, ej⟩ := List.mem_iff_getElem.1 z
    rw [List.length_take] at hj
    have : m.at_[j]? = some a := by
      rw [List.getElem_take] at ej
      rw [List.getElem?_eq_getElem (by omega), ej]
    have := nd_ix s.nd this ha
    omega
theorem RepL.dem (s : Sim G H m S) (hh : ∀ a ∈ hid, a ∈ m.hid) : ∀ {ds es : List D} {vs : List V}, DemL k S ds es → RepL G.K H m ds vs → RepL G.K H (m.cut k hid) es vs
  | _, _, vs, .nil, h => by simpa only [RepL] using h
  | _, _, vs, .cons q qs, h => by
    simp only [RepL] at h ⊢
    obtain ⟨v, r, e, h1, h2⟩ := h
    exact ⟨v, r, e, Rep.dem s hh q h1, RepL.dem s hh qs h2⟩
end
end
/-- how a def's result is told outside -/
def Leaves (S : Sto) : Res D → Res D → Prop
  | .ok d S2, r => KeptS S S2 ∧ ∃ d', Dem S.length S2 d d' ∧ r = .ok d' (S2.take S.length)
  | .exc c S2, r => KeptS S S2 ∧ r = .exc c (S2.take S.length)
  | .bad, _ => False
theorem POk.leave {G : W3} {mg : Str → Option Value} {E : WX} {σ : L2.St} {m : Mp} {H : Hp} {Q : VK} {S : Sto} {r r' : Res D} (s : Sim G H m S) (l : Leaves S r r') (h : POk (RD G) G mg E σ m H Q r') : POk (RD G) G mg E σ m H Q r := by
  cases r with
  | bad => exact l.elim
  | exc c S2 =>
    obtain ⟨kp, rfl⟩ := l
    intro m' H' C g s' e
    obtain ⟨a, b⟩ := s.cut s' g kp
    exact h _ H' C b a e
  | ok d S2 =>
    obtain ⟨kp, d', dm, rfl⟩ := l
    intro m' v H' g s' rr
    obtain ⟨a, b⟩ := s.cut s' g kp
    obtain ⟨hx, q2, fx2⟩ := g.hid
    exact h _ v H' b a (Rep.dem s' (fun a ha => by rw [q2]; exact List.mem_append_right _ ha) dm rr)
/-- THE RULE for a def, its new objects left behind -/
theorem fn_soundD {P : Program} {w : World} {K : PySem.W.Frag} {mg : Str → Option Value} {base : Heap} {x qual : Str} {st : Stmt} {f : Addr} {fd : FuncData} {N ps : List Str} {k : Nat} {F : List D → Sto → Res D} {b : MS}
    (Fn : Fun K x qual st f fd) (Sc : FnScope N ps (defScope st))
    (hb : ∀ (cdv : Value) (A : Around) (outer : List Env) (s : Shared) (H : Hp) (E : XK), Room k (cxN P w K mg base N qual st f cdv A outer s H E).A → L2N.Takes (cxN P w K mg base N qual st f cdv A outer s H E) (EN E) →
      PassesOwn (model P w) (cxN P w K mg base N qual st f cdv A outer s H E).A (cxN P w K mg base N qual st f cdv A outer s H E).env (cxN P w K mg base N qual st f cdv A outer s H E).xe →
      SB (cxN P w K mg base N qual st f cdv A outer s H E) (EN E) (defBody st) b)
    (hF : ∀ ds S, F ds S ≠ .bad → ds.length = ps.length ∧ (bodyRes (b (startF N.length ds) S) = F ds S ∨ Leaves S (bodyRes (b (startF N.length ds) S)) (F ds S))) :
    FnOk P w K mg base (L2N.CX P w) (k + 1) f fd ps (spF ⟨P, w, K⟩ mg ps.length F) := by
  obtain ⟨oc, od, kV, doc, pm, an, cdv, ct, osl, rfl, lk, hcd⟩ := Fn.ex
  refine fn_of lk hcd Sc (fun vs H Q E h => h.1) (fun A outer s H vs Q E hr h => ?_)
  obtain ⟨hl, m, S, ds, sim, rep, h⟩ := h
  refine ⟨_, hb cdv A outer s H E hr (L2N.takes_of rfl rfl rfl rfl) (passes_of rfl), ?_⟩
  have hnb : F ds S ≠ .bad := fun e => by rw [e] at h; exact h
  obtain ⟨_, e⟩ := hF ds S hnb
  have h : POk (RD ⟨P, w, K⟩) ⟨P, w, K⟩ mg (EN E) [] m H Q (bodyRes (b (startF N.length ds) S)) := by
    rcases e with e | e
    · rw [e]; exact h
    · exact h.leave sim e
  refine ⟨m, startF N.length ds, S, ⟨rep.start, sim⟩, ?_⟩
  cases e2 : b (startF N.length ds) S with
  | nx fr S' => rw [e2] at h; exact fun m' σ' H' g a => h m' .non H' g a.s (by simp only [RD, Rep])
  | ret d S' => rw [e2] at h; exact fun m' v H' g s r => h m' v H' g s r
  | brk fr S' => rw [e2] at h; exact h.elim
  | cnt fr S' => rw [e2] at h; exact h.elim
  | exc c S' => rw [e2] at h; exact fun m' σ' H' C g s e => h m' H' C g s e
  | bad => rw [e2] at h; exact h.elim
end Py
set_option maxRecDepth 100000
set_option maxHeartbeats 1000000
namespace Py
open PySem PySem.Spec PyProof.Rows L2

/-! ### built-in names -/
structure Free (mg : Str → Option Value) : Prop where
  len_ : mg "len" = none
  range_ : mg "range" = none
  tuple_ : mg "tuple" = none
  list_ : mg "list" = none
  isinstance_ : mg "isinstance" = none
  all_ : mg "all" = none
  any_ : mg "any" = none
  min_ : mg "min" = none
  max_ : mg "max" = none
  int_ : mg "int" = none
  str_ : mg "str" = none
  bool_ : mg "bool" = none
  sorted_ : mg "sorted" = none
  enumerate_ : mg "enumerate" = none
  zip_ : mg "zip" = none
  set_ : mg "set" = none
  dict_ : mg "dict" = none
  ve_ : mg "ValueError" = none
theorem bt_len : bootBuiltins "len" = some (.builtin "len") := PySem.boot_len
theorem bt_isinstance : bootBuiltins "isinstance" = some (.builtin "isinstance") := by decide +kernel
theorem bt_all : bootBuiltins "all" = some (.builtin "all") := by decide +kernel
theorem bt_any : bootBuiltins "any" = some (.builtin "any") := by decide +kernel
theorem bt_min : bootBuiltins "min" = some (.builtin "min") := by decide +kernel
theorem bt_max : bootBuiltins "max" = some (.builtin "max") := by decide +kernel
theorem bt_sorted : bootBuiltins "sorted" = some (.builtin "sorted") := by decide +kernel
theorem bt_tuple : bootBuiltins "tuple" = some (.type "tuple") := by decide +kernel
theorem bt_list : bootBuiltins "list" = some (.type "list") := by decide +kernel
theorem bt_int : bootBuiltins "int" = some (.type "int") := by decide +kernel
theorem bt_str : bootBuiltins "str" = some (.type "str") := by decide +kernel
theorem bt_bool : bootBuiltins "bool" = some (.type "bool") := by decide +kernel
theorem bt_set : bootBuiltins "set" = some (.type "set") := by decide +kernel
theorem bt_dict : bootBuiltins "dict" = some (.type "dict") := by decide +kernel
theorem hu65 {k : Nat} {A : Around} (hr : Room k A) : A.units + 65 < cLine := by have := hr.un; omega
section
variable {X : Cx} {E : WX}
theorem op_leA : OpR X (compareOp .LtE) (fun x y H Q => rI0 (fun i j => .bl (decide (i ≤ j))) x y H Q ∨ ∃ i j, x = .str i ∧ y = .str j ∧ Q (.bl (!decide (j.cps.toList < i.cps.toList))) H) := op_le.or op_le_str
theorem op_gtA : OpR X (compareOp .Gt) (fun x y H Q => rI0 (fun i j => .bl (decide (j < i))) x y H Q ∨ ∃ i j, x = .str i ∧ y = .str j ∧ Q (.bl (decide (j.cps.toList < i.cps.toList))) H) := op_gt.or op_gt_str
theorem op_geA : OpR X (compareOp .GtE) (fun x y H Q => rI0 (fun i j => .bl (decide (j ≤ i))) x y H Q ∨ ∃ i j, x = .str i ∧ y = .str j ∧ Q (.bl (!decide (i.cps.toList < j.cps.toList))) H) := op_ge.or op_ge_str
theorem op_inA (hu : X.A.units + 65 < cLine) : OpR X (compareOp .In) (fun x y H Q => rInD X.K x y H Q ∨ rInT X.K false x y H Q) := (op_inD hu).or (op_inT hu)
theorem op_notInA (hu : X.A.units + 65 < cLine) : OpR X (compareOp .NotIn) (fun x y H Q => rNotInD X.K x y H Q ∨ rInT X.K true x y H Q) := (op_notInD hu).or (op_notInT hu)
theorem o_isn0 : Op2 (g3 X) X.mg (fun x y H Q => y = .non ∧ Q (.bl (decide (x = .non))) H) (isnD false) := fun E σ m H S x y v u Q s rx ry p => o_isn (X := X) (neg := false) E σ m H S x y v u Q s rx ry p
theorem o_isn1 : Op2 (g3 X) X.mg (fun x y H Q => y = .non ∧ Q (.bl (!decide (x = .non))) H) (isnD true) := fun E σ m H S x y v u Q s rx ry p => o_isn (X := X) (neg := true) E σ m H S x y v u Q s rx ry p
theorem se_gintE {x : Str} {i : Int} {pos : Pos} (hg : Gl X x) (hm : ∃ t, X.mg x = some (.int i t)) (hd : (x == ("__debug__" : Str)) = false := by decide) : SE X E (.Name x pos) (eC (.int i)) := by
  obtain ⟨t, hm⟩ := hm
  exact se_gint hg hm hd
theorem se_gstrE {x : Str} {i : Str} {pos : Pos} (hg : Gl X x) (hm : ∃ t, X.mg x = some (.str i t)) (hd : (x == ("__debug__" : Str)) = false := by decide) : SE X E (.Name x pos) (eC (.str i)) := by
  obtain ⟨t, hm⟩ := hm
  exact se_gstr hg hm hd
/-- a tuple of the module, written -/
def WTup (K : PySem.W.Frag) (mg : Str → Option Value) (x : Str) (d : D) : Prop := ∃ a, mg x = some (.ref a) ∧ ∀ H m, Rep K H m d (.ref a)
theorem se_gtupE {x : Str} {d : D} {pos : Pos} (hg : Gl X x) (hm : WTup X.K X.mg x d) (hd : (x == ("__debug__" : Str)) = false := by decide) : SE X E (.Name x pos) (eC d) := by
  obtain ⟨a, h1, h2⟩ := hm
  exact se_gtup hg h1 h2 hd
end
theorem ss_pass {X : Cx} {E : WX} {pos : Pos} : SS X E (.Pass pos) sNil := ps_imp ps_pass fun Dn σ H h => by
  obtain ⟨m, fr, S, at_, h⟩ := h
  exact h m σ H (.refl _ _) at_
/-- what is shown of a def's body -/
def BodyOk (P : Program) (w : World) (K : PySem.W.Frag) (mg : Str → Option Value) (base : Heap) (N : List Str) (st : Stmt) (k : Nat) (b : MS) : Prop :=
  ∀ (qual : Str) (f : Addr) (cdv : Value) (A : Around) (outer : List Env) (s : Shared) (H : Hp) (E : XK), Room k (cxN P w K mg base N qual st f cdv A outer s H E).A → L2N.Takes (cxN P w K mg base N qual st f cdv A outer s H E) (EN E) →
    PassesOwn (model P w) (cxN P w K mg base N qual st f cdv A outer s H E).A (cxN P w K mg base N qual st f cdv A outer s H E).env (cxN P w K mg base N qual st f cdv A outer s H E).xe →
    SB (cxN P w K mg base N qual st f cdv A outer s H E) (EN E) (defBody st) b
/-- a def and its function: what a caller gets -/
theorem mk_callee {P : Program} {w : World} {K : PySem.W.Frag} {mg : Str → Option Value} {base : Heap} {x : Str} {st : Stmt} {f : Addr} {fd : FuncData} {N ps : List Str} {k : Nat} {F : List D → Sto → Res D} {b : MS}
    (Fn : Fun K x x st f fd) (hm : mg x = some (.ref f)) (hbd : Binds K fd ps []) (Sc : FnScope N ps (defScope st)) (hb : BodyOk P w K mg base N st k b)
    (hF : ∀ ds S, F ds S ≠ .bad → ds.length = ps.length ∧ (bodyRes (b (startF N.length ds) S) = F ds S ∨ Leaves S (bodyRes (b (startF N.length ds) S)) (F ds S))) :
    Callee P w K mg base (k + 1) x ps.length F :=
  callee_mk Fn hm hbd (fn_soundD Fn Sc (fun cdv A outer s H E => hb x f cdv A outer s H E) hF) fun ds S h => (hF ds S h).1
end Py
set_option maxRecDepth 100000
set_option maxHeartbeats 1000000
namespace Py
open PySem PySem.Spec PyProof.Rows L2

/-! ### a def's function: its body's own -/
def demL (f : D → Option D) : List D → Option (List D)
  | [] => some []
  | d :: ds => match f d, demL f ds with | some e, some es => some (e :: es) | _, _ => none
def dem : Nat → Nat → Sto → D → Option D
  | 0, k, S, d => if d.lower k then some d else none
  | f + 1, k, S, .tup ds => (demL (dem f k S) ds).map .tup
  | f + 1, k, S, .lst ds => (demL (dem f k S) ds).map .lst
  | f + 1, k, S, .ref n => if n < k then some (.ref n) else (match S[n]? with | some (.lst ds) => (demL (dem f k S) ds).map .lst | _ => none)
  | f + 1, k, S, d => if d.lower k then some d else none
theorem demL_ok {k : Nat} {S : Sto} {f : D → Option D} (hf : ∀ d e, f d = some e → Dem k S d e) : ∀ {ds es : List D}, demL f ds = some es → DemL k S ds es
  | [], es, h => by cases h; exact .nil
  | d :: ds, es, h => by
    simp only [demL] at h
    split at h
    · rename_i e es' h1 h2
      cases h
      exact .cons (hf d e h1) (demL_ok hf h2)
    · cases h
theorem dem_ok {k : Nat} {S : Sto} : ∀ (f : Nat) (d e : D), dem f k S d = some e → Dem k S d e
  | 0, d, e, h => by
    simp only [dem] at h
    split at h
    · rename_i hl
      cases h
      exact .same hl
    · cases h
  | f + 1, d, e, h => by
    cases d with
    | tup ds =>
      simp only [dem] at h
      cases h1 : demL (dem f k S) ds with
      | none => rw [h1] at h; cases h
      | some es => rw [h1] at h; cases h; exact .tup (demL_ok (dem_ok f) h1)
    | lst ds =>
      simp only [dem] at h
      cases h1 : demL (dem f k S) ds with
      | none => rw [h1] at h; cases h
      | some es => rw [h1] at h; cases h; exact .lst (demL_ok (dem_ok f) h1)
    | ref n =>
      simp only [dem] at h
      split at h
      · rename_i hn
        cases h
        exact .same (by simp [D.lower, hn])
      · rename_i hn
        split at h
        · rename_i ds hS
          cases h1 : demL (dem f k S) ds with
          | none => rw [h1] at h; cases h
          | some es => rw [h1] at h; cases h; exact .ref (Nat.le_of_not_lt hn) hS (demL_ok (dem_ok f) h1)
        · cases h
    | _ =>
      simp only [dem] at h
      split at h
      · rename_i hl
        cases h
        exact .same hl
      · cases h
open Classical in
noncomputable def leaveR (S : Sto) : Res D → Res D
  | .ok d S2 => if KeptS S S2 then (match dem 8 S.length S2 d with | some d' => .ok d' (S2.take S.length) | none => .bad) else .bad
  | .exc c S2 => if KeptS S S2 then .exc c (S2.take S.length) else .bad
  | .bad => .bad
theorem leaveR_ok {S : Sto} {r : Res D} (h : leaveR S r ≠ .bad) : Leaves S r (leaveR S r) := by
  cases r with
  | bad => exact (h rfl).elim
  | exc c S2 =>
    simp only [leaveR] at h ⊢
    by_cases k : KeptS S S2
    · rw [if_pos k]; exact ⟨k, rfl⟩
    · rw [if_neg k] at h; exact (h rfl).elim
  | ok d S2 =>
    simp only [leaveR] at h ⊢
    by_cases k : KeptS S S2
    · rw [if_pos k] at h ⊢
      cases e : dem 8 S.length S2 d with
      | none => rw [e] at h; exact (h rfl).elim
      | some d' => exact ⟨k, d', dem_ok 8 d d' e, rfl⟩
    · rw [if_neg k] at h; exact (h rfl).elim
noncomputable def fnS (n N : Nat) (b : MS) : List D → Sto → Res D := fun ds S => if ds.length = n then bodyRes (b (startF N ds) S) else .bad
noncomputable def fnD (n N : Nat) (b : MS) : List D → Sto → Res D := fun ds S => if ds.length = n then leaveR S (bodyRes (b (startF N ds) S)) else .bad
theorem fnS_ok {n N : Nat} {b : MS} : ∀ ds S, fnS n N b ds S ≠ .bad → ds.length = n ∧ (bodyRes (b (startF N ds) S) = fnS n N b ds S ∨ Leaves S (bodyRes (b (startF N ds) S)) (fnS n N b ds S)) := by
  intro ds S h
  unfold fnS at h ⊢
  by_cases e : ds.length = n
  · rw [if_pos e]; exact ⟨e, .inl rfl⟩
  · rw [if_neg e] at h; exact (h rfl).elim
theorem fnD_ok {n N : Nat} {b : MS} : ∀ ds S, fnD n N b ds S ≠ .bad → ds.length = n ∧ (bodyRes (b (startF N ds) S) = fnD n N b ds S ∨ Leaves S (bodyRes (b (startF N ds) S)) (fnD n N b ds S)) := by
  intro ds S h
  unfold fnD at h ⊢
  by_cases e : ds.length = n
  · rw [if_pos e] at h ⊢; exact ⟨e, .inr (leaveR_ok h)⟩
  · rw [if_neg e] at h; exact (h rfl).elim
/-- where a def stands -/
structure At0 (K : PySem.W.Frag) (mg : Str → Option Value) (x : Str) (st : Stmt) (ps : List Str) : Prop where
  ex : ∃ f fd, Fun K x x st f fd ∧ mg x = some (.ref f) ∧ Binds K fd ps []
theorem callS {P : Program} {w : World} {K : PySem.W.Frag} {mg : Str → Option Value} {base : Heap} {x : Str} {st : Stmt} {N ps : List Str} {k : Nat} {b : MS} (T : At0 K mg x st ps) (Sc : FnScope N ps (defScope st)) (hb : BodyOk P w K mg base N st k b) :
    Callee P w K mg base (k + 1) x ps.length (fnS ps.length N.length b) := by
  obtain ⟨f, fd, h1, h2, h3⟩ := T.ex
  exact mk_callee h1 h2 h3 Sc hb fnS_ok
theorem callD {P : Program} {w : World} {K : PySem.W.Frag} {mg : Str → Option Value} {base : Heap} {x : Str} {st : Stmt} {N ps : List Str} {k : Nat} {b : MS} (T : At0 K mg x st ps) (Sc : FnScope N ps (defScope st)) (hb : BodyOk P w K mg base N st k b) :
    Callee P w K mg base (k + 1) x ps.length (fnD ps.length N.length b) := by
  obtain ⟨f, fd, h1, h2, h3⟩ := T.ex
  exact mk_callee h1 h2 h3 Sc hb fnD_ok
/-- the law's own promise -/
def spEnd (K : PySem.W.Frag) : Sp := fun vs H Q _ => ∃ (a : Addr) (ns : List Int), vs = [.ref a] ∧ FzAt K H ⟨[], []⟩ a (ns.map V.int) ∧ ns.length ≤ 63 ∧ ∀ H', Q (.bl true) H'
theorem end_law {P : Program} {w : World} {K : PySem.W.Frag} {mg : Str → Option Value} {base : Heap} {x : Str} {st : Stmt} {f : Addr} {fd : FuncData} {N : List Str} {k : Nat} {b : MS} (Fn : Fun K x x st f fd) (Sc : FnScope N ["script"] (defScope st)) (hb : BodyOk P w K mg base N st k b)
    (hF : ∀ ns : List Int, ns.length ≤ 63 → ∃ S, fnS 1 N.length b [.fz (ns.map .int)] [] = .ok (.bl true) S) : FnOk P w K mg base (L2N.CX P w) (k + 1) f fd ["script"] (spEnd K) := by
  refine (fn_soundD Fn Sc (fun cdv A outer s H E => hb x f cdv A outer s H E) (fnS_ok (n := 1))).imp ?_
  rintro vs H Q E ⟨a, ns, rfl, h, hl, q⟩
  obtain ⟨S, e⟩ := hF ns hl
  refine ⟨rfl, ⟨[], []⟩, [], [.fz (ns.map .int)], ⟨rfl, List.nodup_nil, by simp, fun n a o h => by simp at h⟩, .one ?_, ?_⟩
  · simp only [Rep]
    exact ⟨a, _, rfl, h, .ints' ns⟩
  · rw [e]
    intro m' v H' g s r
    simp only [RD, Rep] at r
    rw [r]
    exact q H'
/-! ### facts of the written part -/
def DefF (K : PySem.W.Frag) (x : Str) (st : Stmt) : Prop := ∃ (f : Addr) (oc : Value) (od : Option Addr) (kV dc pm : Value) (an : Option Addr) (cd ct : Value) (sl : Array (Option Value)), PySem.W.nsIn K mainGlobals x = some (some (.ref f)) ∧
  K.lookup f = some ⟨oc, od, .func (PySem.W.fnOf x x (defArgs st) (defBody st) (defScope st) .none kV dc pm an cd ct), sl⟩ ∧ PySem.W.codeIn K cd x = true ∧ PySem.W.keepIn K (.ref f) = true
theorem def_mk {K : PySem.W.Frag} {x : Str} {st : Stmt} {f : Addr} {oc : Value} {od : Option Addr} {kV dc pm : Value} {an : Option Addr} {cd ct : Value} {sl : Array (Option Value)} (a : PySem.W.nsIn K mainGlobals x = some (some (.ref f)))
    (l : K.lookup f = some ⟨oc, od, .func (PySem.W.fnOf x x (defArgs st) (defBody st) (defScope st) .none kV dc pm an cd ct), sl⟩) (c : PySem.W.codeIn K cd x = true) (k : PySem.W.keepIn K (.ref f) = true) : DefF K x st := ⟨f, oc, od, kV, dc, pm, an, cd, ct, sl, a, l, c, k⟩
theorem DefF.at0 {K : PySem.W.Frag} {h : Heap} {mg : Str → Option Value} {x : Str} {st : Stmt} {ps : List Str} (T : DefF K x st) (X : K.In h) (G : h.Ns mainGlobals mg)
    (hb : ∀ (kV doc pm : Value) (an : Option Addr) (cdv ct : Value) (us : List Value), us.length = ps.length → bindArgs (PySem.W.fnOf x x (defArgs st) (defBody st) (defScope st) .none kV doc pm an cdv ct) ⟨us, []⟩ = pure (ps.zip us)) : At0 K mg x st ps := by
  obtain ⟨f, oc, od, kV, dc, pm, an, cd, ct, sl, a, l, c, k⟩ := T
  have F := fun_mk (st := st) l c k
  exact ⟨⟨f, _, F, PySem.W.mg_of X G a, F.binds hb⟩⟩
theorem DefF.law {K : PySem.W.Frag} {h : Heap} {mg : Str → Option Value} {x : Str} {st : Stmt} {fa : Addr} (T : DefF K x st) (X : K.In h) (G : h.Ns mainGlobals mg) (hm : mg x = some (.ref fa)) :
    ∃ kV doc pm an cdv ct, Fun K x x st fa (PySem.W.fnOf x x (defArgs st) (defBody st) (defScope st) .none kV doc pm an cdv ct) := by
  obtain ⟨f, oc, od, kV, dc, pm, an, cd, ct, sl, a, l, c, k⟩ := T
  have e := hm.symm.trans (PySem.W.mg_of X G a)
  cases e
  exact ⟨kV, dc, pm, an, cd, ct, fun_mk (st := st) l c k⟩
theorem int_mk {K : PySem.W.Frag} {h : Heap} {mg : Str → Option Value} {x : Str} {i : Int} {t : Tok} (X : K.In h) (G : h.Ns mainGlobals mg) (a : PySem.W.nsIn K mainGlobals x = some (some (.int i t))) : ∃ t, mg x = some (.int i t) := ⟨t, PySem.W.mg_of X G a⟩
theorem str_mk {K : PySem.W.Frag} {h : Heap} {mg : Str → Option Value} {x : Str} {i : Str} {t : Tok} (X : K.In h) (G : h.Ns mainGlobals mg) (a : PySem.W.nsIn K mainGlobals x = some (some (.str i t))) : ∃ t, mg x = some (.str i t) := ⟨t, PySem.W.mg_of X G a⟩
theorem exc_mk {K : PySem.W.Frag} {h : Heap} {mg : Str → Option Value} {x : Str} {C : Addr} (X : K.In h) (G : h.Ns mainGlobals mg) (a : PySem.W.nsIn K mainGlobals x = some (some (.ref C))) (e : PySem.W.excIn K C [.type "ValueError", .type "Exception", .type "BaseException", .type "object"] "ValueError.__new__" = true)
    (k : PySem.W.keepIn K (.ref C) = true) (s : PySem.W.subIn K (.ref C) (.type "BaseException") = some true) (t : PySem.W.typeIn K (.ref C) = some (.type "type")) : ExcF K mg x := ⟨C, e, PySem.W.mg_of X G a, k, s, t⟩
/-- tuples of one text each, in a tuple -/
theorem tup1_mk {K : PySem.W.Frag} {a : Addr} {x : Str} {t : Tok} {dd : Option Addr} {n : Nat} {sl : Array (Option Value)} (l : K.lookup a = some ⟨.type "tuple", dd, .seq #[.str x t] n, sl⟩) : ∀ H m, Rep K H m (.tup [.str x]) (.ref a) := fun H m => by
  simp only [Rep]
  exact ⟨a, [.str x], rfl, .inr ⟨_, _, _, l, rfl, rfl, by rw [sizeLine_eq]; simp, .cons ⟨t, rfl⟩ .nil⟩, .one (by simp only [Rep])⟩
theorem plain_mk {K : PySem.W.Frag} {h : Heap} {mg : Str → Option Value} {x : Str} {a a1 a2 a3 a4 : Addr} {d1 d2 d3 d4 : D} {dd : Option Addr} {n : Nat} {sl : Array (Option Value)} (X : K.In h) (G : h.Ns mainGlobals mg) (e : PySem.W.nsIn K mainGlobals x = some (some (.ref a)))
    (l : K.lookup a = some ⟨.type "tuple", dd, .seq #[.ref a1, .ref a2, .ref a3, .ref a4] n, sl⟩) (h1 : ∀ H m, Rep K H m d1 (.ref a1)) (h2 : ∀ H m, Rep K H m d2 (.ref a2)) (h3 : ∀ H m, Rep K H m d3 (.ref a3)) (h4 : ∀ H m, Rep K H m d4 (.ref a4)) : WTup K mg x (.tup [d1, d2, d3, d4]) := by
  refine ⟨a, PySem.W.mg_of X G e, fun H m => ?_⟩
  simp only [Rep]
  exact ⟨a, [.ref a1, .ref a2, .ref a3, .ref a4], rfl, .inr ⟨_, _, _, l, rfl, rfl, by rw [sizeLine_eq]; simp, .cons rfl (.cons rfl (.cons rfl (.cons rfl .nil)))⟩, .cons (h1 H m) (.cons (h2 H m) (.cons (h3 H m) (.one (h4 H m))))⟩
theorem free_mk {K : PySem.W.Frag} {h : Heap} {mg : Str → Option Value} (X : K.In h) (G : h.Ns mainGlobals mg) (h1 : PySem.W.nsIn K mainGlobals "len" = some none) (h2 : PySem.W.nsIn K mainGlobals "range" = some none) (h3 : PySem.W.nsIn K mainGlobals "tuple" = some none) (h4 : PySem.W.nsIn K mainGlobals "list" = some none)
    (h5 : PySem.W.nsIn K mainGlobals "isinstance" = some none) (h6 : PySem.W.nsIn K mainGlobals "all" = some none) (h7 : PySem.W.nsIn K mainGlobals "any" = some none) (h8 : PySem.W.nsIn K mainGlobals "min" = some none) (h9 : PySem.W.nsIn K mainGlobals "max" = some none) (h10 : PySem.W.nsIn K mainGlobals "int" = some none)
    (h11 : PySem.W.nsIn K mainGlobals "str" = some none) (h12 : PySem.W.nsIn K mainGlobals "bool" = some none) (h13 : PySem.W.nsIn K mainGlobals "sorted" = some none) (h14 : PySem.W.nsIn K mainGlobals "enumerate" = some none) (h15 : PySem.W.nsIn K mainGlobals "zip" = some none) (h16 : PySem.W.nsIn K mainGlobals "set" = some none)
    (h17 : PySem.W.nsIn K mainGlobals "dict" = some none) (h18 : PySem.W.nsIn K mainGlobals "ValueError" = some none) : Free mg :=
  ⟨PySem.W.mg_none_of X G h1, PySem.W.mg_none_of X G h2, PySem.W.mg_none_of X G h3, PySem.W.mg_none_of X G h4, PySem.W.mg_none_of X G h5, PySem.W.mg_none_of X G h6, PySem.W.mg_none_of X G h7, PySem.W.mg_none_of X G h8, PySem.W.mg_none_of X G h9, PySem.W.mg_none_of X G h10, PySem.W.mg_none_of X G h11, PySem.W.mg_none_of X G h12, PySem.W.mg_none_of X G h13, PySem.W.mg_none_of X G h14, PySem.W.mg_none_of X G h15, PySem.W.mg_none_of X G h16, PySem.W.mg_none_of X G h17, PySem.W.mg_none_of X G h18⟩
theorem end_sp {K : PySem.W.Frag} {H : Hp} {a : Addr} {ns : List Int} (hl : ns.length ≤ 63) (ho : Only H) (hS : SqL K H a (ns.map V.int)) : spEnd K [.ref a] H (fun v _ => v = .bl true) fun _ _ _ => False := by
  refine ⟨a, ns, rfl, ?_, hl, fun _ => rfl⟩
  rcases hS with (h | ⟨o, h⟩) | h
  · rcases ho a with z | ⟨o, xs, z⟩ <;> rw [z] at h <;> cases h
  · exact .inl ⟨by simp, o, h⟩
  · exact .inr h
theorem cxn_false {P : Program} {w : World} {outer : List Env} {H : Hp} {s : Shared} {e : Value} {s' : Shared} (h : L2N.CX P w outer H s (fun _ _ _ => False) e s') : False := by
  obtain ⟨a, B, H', cls, d, h1, h2, h3, h4, h5, h6, h7, h8⟩ := h
  exact h8
end Py
set_option maxRecDepth 100000
set_option maxHeartbeats 1000000
namespace Py
open PySem PySem.Spec PyProof.Rows L2

/-! ### list.count of data -/
def rCountD (K : PySem.W.Frag) : V → List V → Hp → VK → Prop := fun x xs H Q => ∃ (a : Addr) (y : V) (d : PyData) (ds : List PyData), x = V.ref a ∧ xs = [y] ∧ Dp K H (V.ref a) (.list ds) ∧ Dp K H y d ∧
  SeqAt.shaped (.list ds) = true ∧ SeqAt.shaped d = true ∧ Q (.int ((ds.countP fun z => PyData.eqv z d : Nat) : Int)) H
theorem mt_countD {X : Cx} (room : X.A.units + 65 < cLine) : MtR X "list.count" (rCountD X.K) := by
  intro pins s σ H x xs v us Q I rx rxs h
  obtain ⟨a, y, d, ds, rfl, rfl, dl, dy, shl, shd, q⟩ := h
  cases rx
  obtain ⟨uy, rfl, ry⟩ := rxs.one
  obtain ⟨bs, rd⟩ := Dp.reads I d y uy dy ry
  have lay : PyData.canLayAll0 ds = true := SeqAt.canLay_of_shaped shl
  have rm : X.A.units + 1 + min (PyData.depthAll ds) d.depth < cLine := room_in_shaped shd room
  cases dl with
  | lst hs ha =>
    obtain ⟨items, rv, ⟨⟨cls, od, dat, slots⟩, n, ho, hc, hdn, hdt⟩, hlen⟩ := I.list hs
    simp only at hc hdt
    subst hc hdt
    obtain ⟨as, rall⟩ := Dp.readsAll I ds _ items ha rv
    have em : items.map (SeqAt.readOf s.heap) = ds := SeqAt.readsAll_map ds items as lay rall
    refine call_meets PySem.F.slot_list_count ⟨_, ho, rfl⟩ PySem.F.entry_list_count (PySem.F.args_list_count_2 _ _) (SeqAt.list_countAt a items.toArray n od slots uy (fun u => PyData.eqv (SeqAt.readOf s.heap u) d))
      ⟨ho, SeqAt.items_eqAt (vs := items.toArray) (show ReadsAll s.heap items.toArray.toList ds as from rall) rd lay (SeqAt.canLay_of_shaped shd) rm, ?_⟩
    have ec : items.toArray.toList.countP (fun u => PyData.eqv (SeqAt.readOf s.heap u) d) = ds.countP fun z => PyData.eqv z d := by
      rw [← em, List.countP_map]
      rfl
    refine ⟨.int ((ds.countP fun z => PyData.eqv z d : Nat) : Int), H, I.tok _, ⟨s.toks, ?_⟩, q⟩
    rw [← ec]
def countD (d : D) (xs : List D) (S : Sto) : Res D := match xs with
  | [y] => (match dP S d, dP S y with | some (.list qs), some p => .ok (.int ((qs.countP fun z => PyData.eqv z p : Nat) : Int)) S | _, _ => .bad)
  | _ => .bad
theorem o_count {X : Cx} : OpM (g3 X) X.mg (rCountD X.K) countD := by
  intro E σ m H S x v xs vs Q s rx r p
  unfold countD at p
  split at p
  · rename_i y
    split at p
    · rename_i qs pp e1 e2
      simp only [RepL] at r
      obtain ⟨w, rr, rfl, r1, rfl⟩ := r
      obtain ⟨d1, s1⟩ := dP_dp s rx e1
      obtain ⟨d2, s2⟩ := dP_dp s r1 e2
      have hv : ∃ a, v = .ref a := by cases d1; exact ⟨_, rfl⟩
      obtain ⟨a, rfl⟩ := hv
      exact ⟨a, w, pp, qs, rfl, rfl, d1, d2, s1, s2, p m _ H (.refl _ _) s (by simp only [RD, Rep])⟩
    · exact p.elim
  · exact p.elim
/-! ### isinstance(e, C), e the handled exception, pinned -/
def eIs (i : Nat) (a : Addr) (b : Bool) : ME := fun fr S => match fr[i]? with | some (some (.adr a')) => if a' = a then .ok (.bl b) S else .bad | _ => .bad
theorem call_isP {X : Cx} {a C : Addr} {oe : Obj} (F : ExcC X.K C) (hz : oe.cls = .ref C ∧ oe.dict = none) (hf : ∃ vs, oe.data = .fields vs) (hp : (a, oe) ∈ X.pn) : CallR X (.builtin "isinstance") (rIsE X.K C a) := by
  intro pins s σ H xs us Q I r h
  obtain ⟨c, cv, b, rfl, hcv, e, q⟩ := h
  obtain ⟨u1, u2, rfl, rx, rt⟩ := vals2 r
  cases rx
  have ec := hcv _ rt
  subst ec
  have got := (I.pin (a, oe) (List.mem_append_left _ hp)).1
  obtain ⟨vs, hv⟩ := hf
  have J : PySem.W.InstAt s.heap a oe C none := by
    obtain ⟨oc, od, oda, osl⟩ := oe
    obtain ⟨h1, h2⟩ := hz
    dsimp only at h1 h2 hv
    subst h1 h2 hv
    exact ⟨got, rfl, rfl, trivial⟩
  exact PySem.W.kia_one (PySem.W.handS_kitx_exc F.hg F.hk F.hs F.hd F.ha F.hn F.ht F.hm) I.kIn J e (fun z => nomatch z) fun tk => ⟨.bl b, H, I.tok tk, rfl, q⟩
/-- x a class of the program -/
theorem se_isE {X : Cx} {E : WX} {a C C' : Addr} {oe : Obj} {n x : Str} {b : Bool} {i : Nat} {p p2 p3 pos : Pos} (F : ExcC X.K C) (hz : oe.cls = .ref C ∧ oe.dict = none) (hf : ∃ vs, oe.data = .fields vs) (hp : (a, oe) ∈ X.pn)
    (hg : Gl X "isinstance") (hm : X.mg "isinstance" = none) (hv : bootBuiltins "isinstance" = some (.builtin "isinstance")) (h1 : PE X (.Name n p2) (tVar i)) (hgx : Gl X x) (hmx : X.mg x = some (.ref C')) (hk : PySem.W.kitOne X.K (.ref C) (.ref C') = some b) (hdx : (x == ("__debug__" : Str)) = false := by decide)
    (he : starEach [.Name n p2, .Name x p3] X.env = (false, eval (.Name n p2) X.env) :: starEach [.Name x p3] X.env := by rfl) (hpl : (backTo pos (starEach [.Name x p3] X.env)).any (·.1) = false := by rfl) :
    SE X E (.Call (.Name "isinstance" p) [.Name n p2, .Name x p3] [] pos) (eIs i a b) := by
  refine pe_imp (pe_callB (call_isP F hz hf hp) hg hm hv (pa_cons h1 (pa_cons (pe_glob hgx hmx (v := .ref C') rfl hdx) pa_nil)) (by decide) (by decide) he hpl) fun σ H Q h => ?_
  obtain ⟨m, fr, S, at_, h⟩ := h
  unfold eIs at h
  split at h
  · rename_i a' e
    split at h
    · rename_i ea
      subst ea
      obtain ⟨v, e1, r⟩ := at_.f.at_ i _ e
      simp only [Rep] at r
      subst r
      refine ⟨_, e1, ?_⟩
      exact ⟨_, .ref C', b, rfl, fun u ru => ru, hk, h m (.bl b) H (.refl _ _) at_.s (by simp only [RD, Rep])⟩
    · exact h.elim
  · exact h.elim
/-- x a built-in class -/
theorem se_isB {X : Cx} {E : WX} {a C : Addr} {oe : Obj} {n x : Str} {T : String} {b : Bool} {i : Nat} {p p2 p3 pos : Pos} (F : ExcC X.K C) (hz : oe.cls = .ref C ∧ oe.dict = none) (hf : ∃ vs, oe.data = .fields vs) (hp : (a, oe) ∈ X.pn)
    (hg : Gl X "isinstance") (hm : X.mg "isinstance" = none) (hv : bootBuiltins "isinstance" = some (.builtin "isinstance")) (h1 : PE X (.Name n p2) (tVar i)) (hgx : Gl X x) (hmx : X.mg x = none) (hvx : bootBuiltins x = some (.type T)) (hk : PySem.W.kitOne X.K (.ref C) (.type T) = some b) (hdx : (x == ("__debug__" : Str)) = false := by decide) (hnx : x ≠ "__name__" := by decide)
    (he : starEach [.Name n p2, .Name x p3] X.env = (false, eval (.Name n p2) X.env) :: starEach [.Name x p3] X.env := by rfl) (hpl : (backTo pos (starEach [.Name x p3] X.env)).any (·.1) = false := by rfl) :
    SE X E (.Call (.Name "isinstance" p) [.Name n p2, .Name x p3] [] pos) (eIs i a b) := by
  refine pe_imp (pe_callB (call_isP F hz hf hp) hg hm hv (pa_cons h1 (pa_cons (pe_bltn (v := .ty T) hgx hmx hvx rfl hnx hdx) pa_nil)) (by decide) (by decide) he hpl) fun σ H Q h => ?_
  obtain ⟨m, fr, S, at_, h⟩ := h
  unfold eIs at h
  split at h
  · rename_i a' e
    split at h
    · rename_i ea
      subst ea
      obtain ⟨v, e1, r⟩ := at_.f.at_ i _ e
      simp only [Rep] at r
      subst r
      refine ⟨_, e1, ?_⟩
      exact ⟨_, .type T, b, rfl, fun u ru => ru, hk, h m (.bl b) H (.refl _ _) at_.s (by simp only [RD, Rep])⟩
    · exact h.elim
  · exact h.elim
end Py
set_option maxRecDepth 100000
set_option maxHeartbeats 1000000
namespace Py
open PySem PySem.Spec PyProof.Rows L2

/-! ### a def that is handed the handled exception -/
structure WhichF (P : Program) (w : World) (K : PySem.W.Frag) (mg : Str → Option Value) (base : Heap) (k : Nat) (Wv : Str → Option D) : Prop where
  ex : ∃ (f : Addr) (fd : FuncData), mg "_law_which" = some (.ref f) ∧ PySem.W.keepIn K (.ref f) = true ∧ Binds K fd ["e"] [] ∧
    ∀ (A : Around) (outer : List Env) (s : Shared) (H : Hp) (args : Args) (us : List Value) (Q : VK) (E : XK) (p : Addr × Obj) (c : Str) (C : Addr) (d : D) (m : Mp) (S : Sto), L2H.RoomH k A → L2H.Hot1 A p → L2H.PinOk outer H s p → Env0 P w K mg base A outer s H →
      BindsTo s fd args (([("e" : Str)] : List Str).zip us) → Vals [.ref p.1] us → p.2.cls = .ref C ∧ p.2.dict = none → (∃ vs, p.2.data = .fields vs) → mg c = some (.ref C) → Wv c = some d → Sim ⟨P, w, K⟩ H m S →
      (∀ m' v H', Grow m H m' H' → Sim ⟨P, w, K⟩ H' m' S → Rep K H' m' d v → Q v H') → codeAny (model P w) A (.call (.ref f) args) (CR (L2N.CX P w) outer P w H s Q E) s
theorem which_mk {P : Program} {w : World} {K : PySem.W.Frag} {mg : Str → Option Value} {base : Heap} {st : Stmt} {f : Addr} {fd : FuncData} {N : List Str} {k : Nat} {Wv : Str → Option D}
    (Fn : Fun K "_law_which" "_law_which" st f fd) (hm : mg "_law_which" = some (.ref f)) (hk : PySem.W.keepIn K (.ref f) = true) (hbd : Binds K fd ["e"] []) (Sc : FnScope N ["e"] (defScope st))
    (hb : ∀ (cdv : Value) (A : Around) (outer : List Env) (s : Shared) (H : Hp) (E : XK) (p : Addr × Obj) (c : Str) (C : Addr) (d : D), L2H.Hot1 A p → L2H.RoomH k (L2H.cxH (L2N.CX P w) P w K mg base N "_law_which" (defScope st) f cdv A outer s H E p).A → p.2.cls = .ref C ∧ p.2.dict = none → (∃ vs, p.2.data = .fields vs) → mg c = some (.ref C) → Wv c = some d →
      ∃ b : MS, SB (L2H.cxH (L2N.CX P w) P w K mg base N "_law_which" (defScope st) f cdv A outer s H E p) EF (defBody st) b ∧ ∀ S, Leaves S (bodyRes (b (startF N.length [.adr p.1]) S)) (.ok d S)) :
    WhichF P w K mg base (k + 1) Wv := by
  obtain ⟨oc, od, kV, doc, pm, an, cdv, ct, osl, rfl, lk, hcd⟩ := Fn.ex
  refine ⟨f, _, hm, hk, hbd, fun A outer s H args us Q E p c C d m S hr hot hpin e0 bnd r hz hf hc hV sim hQ => ?_⟩
  have KX : K.In s.heap := e0.mod.kin.keeps fun b o e => (e0.bs b o e).1
  have lim : s.heap.NoLimit := e0.mod.nolimit.keeps fun b o e => (e0.bs b o e).1
  have par : ∀ y ∈ ([("e" : Str)] : List Str).zip us, (defScope st).names.lookup y.1 = some .local ∨ ((defScope st).names.lookup y.1 = some .cell ∧ ((cellsFrom (s.heap.objs.size + 1) (defScope st).names []).lookup y.1).isSome = true) := by
    rintro ⟨n, v⟩ hy
    rcases Sc.par n (List.of_mem_zip hy).1 with q | q
    · exact Or.inl q
    · exact Or.inr ⟨q, PySem.W.cellsFrom_some _ _ _ (Or.inl q)⟩
  refine codeAny_call_function hr.depth (KX _ _ lk) rfl Sc.co Sc.gen rfl (PySem.W.codeRec_of KX hcd) (bnd _ _ _ _ ?_)
  refine wpAny_newFunctionEnv_cells Sc.kind par fun env he s1 x => ?_
  subst he
  refine ⟨lim.keeps x.toInCall.keep, codeAny_func ?_⟩
  obtain ⟨b, hb1, hb2⟩ := hb cdv A outer s H E p c C d hot (hr.deeper _) hz hf hc hV
  have I := L2H.inv_startH (CX := L2N.CX P w) (E := E) Sc hpin e0 (vs := [.ref p.1]) rfl r x
  have rep : RepL K H m [.adr p.1] [V.ref p.1] := .cons (by simp only [Rep]) .nil
  have h0 : POk (RD ⟨P, w, K⟩) ⟨P, w, K⟩ mg EF [] m H Q (.ok d S) := fun m' v H' g s' r' => hQ m' v H' g s' r'
  have h1 : POk (RD ⟨P, w, K⟩) ⟨P, w, K⟩ mg EF [] m H Q (bodyRes (b (startF N.length [.adr p.1]) S)) := h0.leave sim (hb2 S)
  have wish : tS (g3 (L2H.cxH (L2N.CX P w) P w K mg base N "_law_which" (defScope st) f cdv A outer s H E p)) mg EF b { nx := fun _ H' => Q .non H', rt := Q } (L2.start N [.ref p.1]) H := by
    refine ⟨m, startF N.length [.adr p.1], S, ⟨rep.start, sim⟩, ?_⟩
    cases e2 : b (startF N.length [.adr p.1]) S with
    | nx fr S' => rw [e2] at h1; exact fun m' σ' H' g a => h1 m' .non H' g a.s (by simp only [RD, Rep])
    | ret d S' => rw [e2] at h1; exact fun m' v H' g s r => h1 m' v H' g s r
    | brk fr S' => rw [e2] at h1; exact h1.elim
    | cnt fr S' => rw [e2] at h1; exact h1.elim
    | exc c S' => rw [e2] at h1; exact fun m' σ' H' C g s e => h1 m' H' C g s e
    | bad => rw [e2] at h1; exact h1.elim
  refine wpAny_mono (hb1.run [] s1 (L2.start N [.ref p.1]) H _ I wish) (fun fl s' hs => ?_) fun e s' hs => hs
  cases fl with
  | ret u =>
    obtain ⟨v, σ', H', J, rv, q⟩ := hs
    exact ⟨v, H', J.os, J.bare, J.base, J.hok, rv, q⟩
  | next =>
    obtain ⟨σ', H', J, q⟩ := hs
    exact ⟨.non, H', J.os, J.bare, J.base, J.hok, rfl, q⟩
  | brk => exact hs.elim fun _ h => h.elim fun _ h => h.2.elim
  | cont => exact hs.elim fun _ h => h.elim fun _ h => h.2.elim
/-! ### try: .. except HallError as e: return _law_which(e) -/
def sTry (Wv : Str → Option D) (f : MS) : MS := fun fr S => match f fr S with
  | .exc c S' => (match Wv c with | some d => .ret d S' | none => .bad)
  | r => r
def ExcOf (K : PySem.W.Frag) (mg : Str → Option Value) (Wv : Str → Option D) (cH : Value) : Prop := ∀ c d C, Wv c = some d → mg c = some (.ref C) → PySem.W.exmOne K (.ref C) cH = some true
theorem pe_which {Y : Cx} {a : Addr} {oe : Obj} {p2 p3 q : Pos} {i k : Nat} {Wv : Str → Option D} (W : WhichF Y.prog Y.w Y.K Y.mg Y.base k Wv) (hr : L2H.RoomH k Y.A) (hot : L2H.Hot1 Y.A (a, oe)) (hp : (a, oe) ∈ Y.pn) (hf : ∃ vs, oe.data = .fields vs) (hi : Y.N[i]? = some "e") (hv : Vis Y.env.scope "e") (hg : Gl Y "_law_which")
    (he : starEach [.Name "e" p2] Y.env = (false, eval (.Name "e" p2) Y.env) :: starEach [] Y.env) (hpl : (backTo p3 (starEach [] Y.env)).any (·.1) = false) :
    PE Y (.Call (.Name "_law_which" q) [.Name "e" p2] [] p3) (fun σ H Q => σ[i]? = some (some (V.ref a)) ∧ ∃ (c : Str) (C : Addr) (r : D) (m : Mp) (S : Sto), (oe.cls = .ref C ∧ oe.dict = none) ∧ Y.mg c = some (.ref C) ∧ Wv c = some r ∧ Sim (g3 Y) H m S ∧ ∀ m' v H', Grow m H m' H' → Sim (g3 Y) H' m' S → Rep Y.K H' m' r v → Q v H') := by
  obtain ⟨fa, fd, hm, hk, hbd, run⟩ := W.ex
  refine ⟨fun pins s σ H Q I h => ?_⟩
  obtain ⟨hget, c, C, r, m, S, hz, hC, hV, sim, hq⟩ := h
  have args : PA Y [.Name "e" p2] _ := pa_cons (pe_var hi hv) pa_nil
  refine wpAny_Call_Name_kw (ld_glob I hg hm ?_ (by decide))
  refine PySem.W.callWith_K (h₀ := Y.base) I.ok.mod.kin hk (thn (args.run p3 pins s σ H (fun vs H1 => vs = [V.ref a] ∧ H1 = H) I ⟨_, hget, rfl, rfl⟩) fun us s1 hap => ?_) he hpl
  obtain ⟨vs, H1, I1, rv, rfl, rfl⟩ := hap
  refine ⟨I1.kIn, ?_⟩
  have bnd := hbd s1 us I1.kIn (by rw [List.append_nil]; exact rv.length.symm)
  rw [List.append_nil] at bnd
  have P1 := I1.pin (a, oe) (List.mem_append_left _ hp)
  have pin : L2H.PinOk Y.stack H1 s1 (a, oe) := ⟨P1.1, P1.2.1, fun z => (List.mem_cons.mp (I1.stkSub a z)).elim P1.2.2.1 P1.2.2.2.1, P1.2.2.2.2⟩
  refine wpAny_call (codeAny_mono (run Y.A Y.stack s1 H1 ⟨us, []⟩ us Q (fun _ _ _ => False) (a, oe) c C r m S hr hot pin I1.env0 bnd rv hz hf hC hV sim hq) fun res s' hres => ?_)
  cases res with
  | error e =>
    obtain ⟨_, _, _, _, _, _, _, _, _, _, _, _, z⟩ := hres
    exact z.elim
  | ok fl =>
    cases fl with
    | ret u => exact I1.after hres
    | next => exact False.elim hres
    | brk => exact False.elim hres
    | cont => exact False.elim hres
theorem ss_tryW {X : Cx} {E : WX} {body : List Stmt} {f : MS} {np pos pos' p2 p3 p4 q : Pos} {i k : Nat} {Wv : Str → Option D} {cH : Value} (W : WhichF X.prog X.w X.K X.mg X.base k Wv) (hr : Room k X.A) (hs : X.stack = X.env :: X.outer) (hf : X.env.frame = some X.env.locals) (hN : X.N.Nodup) (hi : X.N[i]? = some "e")
    (hln : X.env.kindOf "e" = some .local) (hv : Vis X.env.scope "e") (hc : L2.Names X "HallError" cH) (hx : ExcOf X.K X.mg Wv cH) (hg : Gl X "_law_which") (tk : L2N.Takes X E)
    (hb : ∀ (W : WX) (pn : List (Addr × Obj)) (xe : Value → Shared → Prop), L2N.Takes (X.tr pn xe) W → PassesOwn (model X.prog X.w) X.A X.env xe → SB (X.tr pn xe) W body f)
    (he : starEach [.Name "e" p2] X.env = (false, eval (.Name "e" p2) X.env) :: starEach [] X.env := by rfl) (hpl : (backTo p3 (starEach [] X.env)).any (·.1) = false := by rfl) :
    SS X E (.Try body [.ExceptHandler (some (.Name "HallError" np)) (some "e") [.Return (some (.Call (.Name "_law_which" q) [.Name "e" p2] [] p3)) p4] pos'] [] [] pos) (sTry Wv f) := by
  obtain ⟨fa, fd, hm, hk, hbd, run⟩ := W.ex
  refine ps_imp (L2N.ps_try_as (tb := fun W => tS (g3 X) X.mg W f) (ts := fun a cls d Dn σ H => ∃ (σ0 : L2.St) (c : Str) (C : Addr) (r : D) (m : Mp) (S : Sto), σ = σ0.set i (some (.ref a)) ∧ cls = .ref C ∧ d = none ∧ X.mg c = some (.ref C) ∧ Wv c = some r ∧ Sim (g3 X) H m S ∧ (∀ m' v H', Grow m H m' H' → Sim (g3 X) H' m' S → Rep X.K H' m' r v → Dn.rt v H')) hs hf hN hi hln hc tk hb ?su) fun Dn σ H h => ?wish
  case wish =>
    obtain ⟨m, fr, S, at_, h⟩ := h
    refine ⟨m, fr, S, at_, ?_⟩
    unfold sTry at h
    cases e : f fr S with
    | exc c S' =>
      rw [e] at h
      simp only at h
      cases e2 : Wv c with
      | none => rw [e2] at h; exact h.elim
      | some d =>
        rw [e2] at h
        intro m' σ' H' C g s' hC
        refine ⟨true, hx c d C e2 hC, fun _ a ha => ⟨σ', c, C, d, m', S', rfl, rfl, rfl, hC, e2, s', fun m2 v H2 g2 s2 r2 => ?_⟩, fun z => Bool.noConfusion z⟩
        exact h m2 v H2 (g.trans g2) s2 r2
    | nx fr' S' => rw [e] at h; exact h
    | ret d S' => rw [e] at h; exact h
    | brk fr' S' => rw [e] at h; exact h
    | cnt fr' S' => rw [e] at h; exact h
    | bad => rw [e] at h; exact h
  case su =>
    intro a oe cls d pn hz hfl
    refine ⟨fun pins s σ H Dn I h => ?_⟩
    obtain ⟨σ0, c, C, r, m, S, rfl, rfl, rfl, hC, hV, sim, hq⟩ := h
    have hlen : σ0.length = X.N.length := by have := I.len; rwa [List.length_set] at this
    have hil : i < σ0.length := by rw [hlen]; exact (List.getElem?_eq_some_iff.1 hi).1
    have hget : (σ0.set i (some (V.ref a)))[i]? = some (some (V.ref a)) := by simp [hil]
    have hot : L2H.Hot1 (X.suite a ((a, oe) :: pn)).A (a, oe) := by
      obtain ⟨vs, hvs⟩ := hfl
      exact ⟨rfl, vs, hvs, hz.2.2 vs hvs⟩
    have hrH : L2H.RoomH k (X.suite a ((a, oe) :: pn)).A := ⟨(L2H.roomH_of hr).dp, (L2H.roomH_of hr).un⟩
    have pe := pe_which (Y := X.suite a ((a, oe) :: pn)) (p2 := p2) (p3 := p3) (q := q) W hrH hot (List.mem_cons_self ..) hfl hi hv hg he hpl
    exact (pss_one (ps_ret pe)).run pins s _ H Dn I ⟨hget, c, C, r, m, S, ⟨hz.1, hz.2.1⟩, hC, hV, sim, hq⟩
end Py
set_option maxRecDepth 100000
set_option maxHeartbeats 1000000
namespace Py
open PySem PySem.Spec PyProof.Rows L2

theorem bt_ve : bootBuiltins "ValueError" = some (.type "ValueError") := by decide +kernel
/-! ### _law_which -/
abbrev own13 : List Str := ["NoPicture", "NoSize", "NoDeeds", "NoCut", "NoNumber", "NoPlace", "NoWord", "NoStars", "NoFiles", "NoRule", "NoStep", "Full", "NoAsk"]
def KitAt (K : PySem.W.Frag) (mg : Str → Option Value) (C : Addr) (x : Str) (b : Bool) : Prop := ∃ C', mg x = some (.ref C') ∧ PySem.W.kitOne K (.ref C) (.ref C') = some b
structure WRow (K : PySem.W.Frag) (mg : Str → Option Value) (c : Str) (j : Nat) : Prop where
  ex : ∃ C, mg c = some (.ref C) ∧ ExcC K C ∧ PySem.W.kitOne K (.ref C) (.type "ValueError") = some true ∧ (∃ CH, mg "HallError" = some (.ref CH) ∧ PySem.W.exmOne K (.ref C) (.ref CH) = some true) ∧
    KitAt K mg C "NoPicture" (decide (0 = j)) ∧ KitAt K mg C "NoSize" (decide (1 = j)) ∧ KitAt K mg C "NoDeeds" (decide (2 = j)) ∧ KitAt K mg C "NoCut" (decide (3 = j)) ∧ KitAt K mg C "NoNumber" (decide (4 = j)) ∧ KitAt K mg C "NoPlace" (decide (5 = j)) ∧
    KitAt K mg C "NoWord" (decide (6 = j)) ∧ KitAt K mg C "NoStars" (decide (7 = j)) ∧ KitAt K mg C "NoFiles" (decide (8 = j)) ∧ KitAt K mg C "NoRule" (decide (9 = j)) ∧ KitAt K mg C "NoStep" (decide (10 = j)) ∧ KitAt K mg C "Full" (decide (11 = j)) ∧ KitAt K mg C "NoAsk" (decide (12 = j))
section
variable {K : PySem.W.Frag} {h : Heap} {mg : Str → Option Value}
theorem kitAt_mk {C C' : Addr} {x : Str} {b : Bool} (X : K.In h) (G : h.Ns mainGlobals mg) (a : PySem.W.nsIn K mainGlobals x = some (some (.ref C'))) (d : PySem.W.hasDictIn K C' = true) (t : PySem.W.typeIn K (.ref C') = some (.type "type")) (e : PySem.W.subIn K (.ref C) (.ref C') = some b) (q : C = C' → b = true) : KitAt K mg C x b := by
  refine ⟨C', PySem.W.mg_of X G a, ?_⟩
  unfold PySem.W.kitOne
  by_cases c : (Value.ref C == Value.ref C') = true
  · rw [if_pos c, q (Value.ref.inj (eq_of_beq c))]
  · rw [if_neg c]
    obtain ⟨cd, hc, _⟩ := PySem.W.any_some d
    simp only [PySem.W.kitCls]
    rw [if_pos (by rw [hc, t]; rfl), e]
theorem kitV_mk {C : Addr} (e : PySem.W.subIn K (.ref C) (.type "ValueError") = some true) : PySem.W.kitOne K (.ref C) (.type "ValueError") = some true := by
  unfold PySem.W.kitOne
  rw [if_neg (by intro z; cases eq_of_beq z)]
  simp only [PySem.W.kitCls]
  rw [if_pos (by decide +kernel), e]
theorem excC_mk {C : Addr} (h1 : PySem.W.findIn K (.ref C) "__getattribute__" = some (some (.builtin "BaseException.__getattribute__"))) (h2 : PySem.W.findIn K (.ref C) "__getattr__" = some none) (h3 : PySem.W.subIn K (.ref C) (.type "BaseException") = some true)
    (h4 : PySem.W.hasDictIn K C = true) (h5 : PySem.W.findIn K (.ref C) "__class__" = some (some (.builtin "object.__class__"))) (h6 : PySem.W.specialIn K (.builtin "object.__class__") "__get__" = some (some (.builtin "getset_descriptor.__get__")))
    (h7 : PySem.W.takesIn K (.builtin "object.__class__") = some true) (h8 : PySem.W.mroIn K C (.type "object") = some true) : ExcC K C := ⟨h1, h2, h3, h4, h5, h6, h7, h8⟩
theorem wrow_mk {C CH : Addr} {c : Str} {j : Nat} (X : K.In h) (G : h.Ns mainGlobals mg) (a : PySem.W.nsIn K mainGlobals c = some (some (.ref C))) (e : ExcC K C) (v : PySem.W.subIn K (.ref C) (.type "ValueError") = some true) (ah : PySem.W.nsIn K mainGlobals "HallError" = some (some (.ref CH))) (hb : PySem.W.subIn K (.ref CH) (.type "BaseException") = some true) (hd : PySem.W.hasDictIn K CH = true) (ht : PySem.W.typeIn K (.ref CH) = some (.type "type")) (hs : PySem.W.subIn K (.ref C) (.ref CH) = some true)
    (k0 : KitAt K mg C "NoPicture" (decide (0 = j))) (k1 : KitAt K mg C "NoSize" (decide (1 = j))) (k2 : KitAt K mg C "NoDeeds" (decide (2 = j))) (k3 : KitAt K mg C "NoCut" (decide (3 = j))) (k4 : KitAt K mg C "NoNumber" (decide (4 = j))) (k5 : KitAt K mg C "NoPlace" (decide (5 = j)))
    (k6 : KitAt K mg C "NoWord" (decide (6 = j))) (k7 : KitAt K mg C "NoStars" (decide (7 = j))) (k8 : KitAt K mg C "NoFiles" (decide (8 = j))) (k9 : KitAt K mg C "NoRule" (decide (9 = j))) (k10 : KitAt K mg C "NoStep" (decide (10 = j))) (k11 : KitAt K mg C "Full" (decide (11 = j))) (k12 : KitAt K mg C "NoAsk" (decide (12 = j))) : WRow K mg c j :=
  ⟨C, PySem.W.mg_of X G a, e, kitV_mk v, ⟨CH, PySem.W.mg_of X G ah, PySem.W.exm_ref hb hd ht hs⟩, k0, k1, k2, k3, k4, k5, k6, k7, k8, k9, k10, k11, k12⟩
theorem hall_mk {C : Addr} (X : K.In h) (G : h.Ns mainGlobals mg) (a : PySem.W.nsIn K mainGlobals "HallError" = some (some (.ref C))) : ∃ C, mg "HallError" = some (.ref C) := ⟨C, PySem.W.mg_of X G a⟩
def RowsOk (K : PySem.W.Frag) (mg : Str → Option Value) (L : List (Str × Nat)) : Prop := ∀ c j, L.lookup c = some j → WRow K mg c j ∧ j < 13
theorem rows_nil : RowsOk K mg [] := fun c j h => by cases h
theorem rows_cons {c : Str} {j : Nat} {L : List (Str × Nat)} (w : WRow K mg c j) (hj : j < 13) (r : RowsOk K mg L) : RowsOk K mg ((c, j) :: L) := fun c' j' h => by
  rw [List.lookup_cons] at h
  split at h
  · rename_i e
    cases h
    have := eq_of_beq e
    subst this
    exact ⟨w, hj⟩
  · exact r c' j' h
end
def refusedD (j : Nat) : D := .tup [.str "refused", .int j]
def wOf (L : List (Str × Nat)) (c : Str) : Option D := (L.lookup c).map refusedD
theorem wOf_some {L : List (Str × Nat)} {c : Str} {d : D} (h : wOf L c = some d) : ∃ j, L.lookup c = some j ∧ d = refusedD j := by
  unfold wOf at h
  cases e : L.lookup c with
  | none => rw [e] at h; cases h
  | some j => rw [e] at h; cases h; exact ⟨j, rfl, rfl⟩
theorem excOf_rows {K : PySem.W.Frag} {mg : Str → Option Value} {L : List (Str × Nat)} {CH : Addr} (r : RowsOk K mg L) (hH : mg "HallError" = some (.ref CH)) : ExcOf K mg (wOf L) (.ref CH) := fun c d C h hC => by
  obtain ⟨j, e, _⟩ := wOf_some h
  obtain ⟨C0, h1, _, _, ⟨CH', h2, h3⟩, _⟩ := (r c j e).1.ex
  rw [hC] at h1; cases h1
  rw [hH] at h2; cases h2
  exact h3
/-- its body, e the handled exception at a, of own13's class j -/
def b_which (a : Addr) (j : Nat) : MS :=
  (sSeq (sSet 1 (eNewL (aCons (eIs 0 a (decide (0 = j))) (aCons (eIs 0 a (decide (1 = j))) (aCons (eIs 0 a (decide (2 = j))) (aCons (eIs 0 a (decide (3 = j))) aNil))))))
    (sSeq (sExpr (eMethL extendD (eVar 1) (aCons (eLst (aCons (eIs 0 a (decide (4 = j))) (aCons (eIs 0 a (decide (5 = j))) (aCons (eIs 0 a (decide (6 = j))) (aCons (eIs 0 a (decide (7 = j))) aNil))))) aNil)))
    (sSeq (sExpr (eMethL extendD (eVar 1) (aCons (eLst (aCons (eIs 0 a (decide (8 = j))) (aCons (eIs 0 a (decide (9 = j))) (aCons (eIs 0 a (decide (10 = j))) (aCons (eIs 0 a (decide (11 = j))) aNil))))) aNil)))
    (sSeq (sExpr (eMethL appendD (eVar 1) (aCons (eIs 0 a (decide (12 = j))) aNil)))
    (sSeq (sIf (tOrM (tVal (e2 (eqD true) (eMethL countD (eVar 1) (aCons (eC (.bl true)) aNil)) (eC (.int 1)))) (tNotM (tVal (eIs 0 a true))))
    (sRet (eTup (aCons (eC (.str "refused")) (aCons (e1 negD (eC (.int 1))) aNil))))
    sNil)
    (sRet (eTup (aCons (eC (.str "refused")) (aCons (eMethL indexD (eVar 1) (aCons (eC (.bl true)) aNil)) aNil)))))))))
theorem which_leaves (a : Addr) (j : Nat) (hj : j < 13) (S : Sto) : Leaves S (bodyRes (b_which a j (startF 2 [.adr a]) S)) (.ok (refusedD j) S) := by
  have e : bodyRes (b_which a j (startF 2 [.adr a]) S) = .ok (refusedD j) (S ++ [.lst ((List.range 13).map fun i => .bl (decide (i = j)))]) := by
    have z4 : 4 ≤ sz := by unfold sz; omega
    have z2 : 2 ≤ sz := by unfold sz; omega
    have zi : ∀ k : Nat, k < 20 → k < sz := fun k hk => by unfold sz; omega
    have zl : ∀ k : Nat, k < 20 → k ≤ sz := fun k hk => by unfold sz; omega
    rcases j with _ | _ | _ | _ | _ | _ | _ | _ | _ | _ | _ | _ | _ | j
    all_goals first
      | omega
      | (simp [b_which, startF, bodyRes, sSeq, sSet, sExpr, sIf, sRet, sNil, eNewL, eLst, eTup, aCons, aNil, eIs, eVar, eC, e1, e2, eMethL, lstOf, extendD, appendD, tOrM, tNotM, tVal, seqOf, z4, z2, zi, zl, countD, indexD, findP, dP, toP, toPs, PyData.eqv, eqD, List.countP, List.countP.go, refusedD, List.range, List.range.loop])
  rw [e]
  refine ⟨⟨by simp, fun i o hi h => ?_⟩, refusedD j, ?_, ?_⟩
  · left; rwa [List.getElem?_append_left hi] at h
  · exact .same (by simp [refusedD, D.lower, lowerL])
  · simp
theorem At0.parts {K : PySem.W.Frag} {mg : Str → Option Value} {x : Str} {st : Stmt} {ps : List Str} (T : At0 K mg x st ps) : ∃ f fd, Fun K x x st f fd ∧ mg x = some (.ref f) ∧ PySem.W.keepIn K (.ref f) = true ∧ Binds K fd ps [] := by
  obtain ⟨f, fd, h1, h2, h3⟩ := T.ex
  exact ⟨f, fd, h1, h2, h1.kp, h3⟩
theorem hall_names {X : Cx} (hg : Gl X "HallError") (h : ∃ C, X.mg "HallError" = some (.ref C)) : L2.Names X "HallError" ((X.mg "HallError").getD .none) := by
  obtain ⟨C, e⟩ := h
  refine ⟨hg, by decide, Or.inl ?_⟩
  rw [e]
  rfl
theorem hall_exc {K : PySem.W.Frag} {mg : Str → Option Value} {L : List (Str × Nat)} (h : ∃ C, mg "HallError" = some (.ref C)) (r : RowsOk K mg L) : ExcOf K mg (wOf L) ((mg "HallError").getD .none) := by
  obtain ⟨C, e⟩ := h
  rw [e]
  exact excOf_rows r e
end Py
set_option maxRecDepth 100000
set_option maxHeartbeats 1000000
namespace Py
open PySem PySem.Spec PyProof.Rows L2
/-! ### [x] * n, to the store -/
open Classical in
noncomputable def mulN (x y : D) (S : Sto) : Res D := match y with
  | .int k => (match lstOf S x with | some xs => if 0 ≤ k ∧ k ≤ 1000 ∧ xs.length ≤ 1000 then .ok (.ref S.length) (S ++ [.lst (repD k.toNat xs)]) else .bad | none => .bad)
  | _ => .bad
section
variable {X : Cx}
theorem o_mulN : Op2 (g3 X) X.mg (rMulA X.K) mulN := by
  intro E σ m H S x y v u Q s rx ry p
  unfold mulN at p
  split at p
  · rename_i k
    simp only [Rep] at ry
    split at p
    · rename_i xs hS
      split at p
      · rename_i h
        obtain ⟨a, vs, rfl, hq, r⟩ := lst_at s rx hS
        refine .inr (.inr ⟨a, k, vs, rfl, ry, hq, by omega, by omega, ?_, fun q hq => p (m.add q) _ _ (.alloc hq) (s.alloc hq ⟨_, upd_same, (r.rep _).mono (.alloc hq)⟩) (.refLast s.len)⟩)
        rw [r.length, sizeLine_eq]
        have : xs.length * k.toNat ≤ 1000 * 1000 := Nat.mul_le_mul h.2.2 (by omega)
        omega
      · exact p.elim
    · exact p.elim
  · exact p.elim
end
/-! ### xs[i] = e -/
def sLput (f fo fi : ME) : MS := fun fr S => (f fr S).then fun x S => (fo fr S).then fun d S => (fi fr S).then fun i S => match d, i with
  | .ref n, .int k => (match S[n]? with | some (.lst xs) => (match ixN xs.length k with | some j => .nx fr (S.set n (.lst (xs.set j x))) | none => .bad) | _ => .bad)
  | _, _ => .bad
theorem ss_lput {X : Cx} {E : WX} {e o i : Expr} {f fo fi : ME} {pos p2 : Pos} (he : SE X E e f) (ho : SE X E o fo) (hi : SE X E i fi) (hs : swapsWithSole [.Subscript o i p2] e pos.line X.env = pure false := by rfl) (hw : swappedStores [.Subscript o i p2] e X.env = pure none := by rfl)
    (h1 : (assignEach [.Subscript o i p2] X.env).map (·.2) = [assign (.Subscript o i p2) X.env] := by rfl)
    (ha : ∀ v, assign (.Subscript o i p2) X.env v = (do
      let ov ← holding [v] (eval o X.env)
      let iv ← holding [v, ov] (eval i X.env)
      standAt p2
      holding [v, ov, iv] (setItem ov iv v)
      release [v, ov, iv] []) := by intro _; rfl) : SS X E (.Assign [.Subscript o i p2] e pos) (sLput f fo fi) :=
  ps_imp (ps_asg he (pg_sub ho hi set_list ha) hs hw h1) fun Dn σ H h => by
    obtain ⟨m, fr, S, at_, h⟩ := h
    refine ⟨m, fr, S, at_, PSt.then h fun x S1 m1 v H1 e1 g1 s1 r1 p1 => ?_⟩
    refine ⟨m1, fr, S1, ⟨at_.f.mono g1, s1⟩, PSt.then p1 fun d S2 m2 w H2 e2 g2 s2 r2 p2 => ?_⟩
    refine ⟨m2, fr, S2, ⟨(at_.f.mono g1).mono g2, s2⟩, PSt.then p2 fun k S3 m3 u H3 e3 g3 s3 r3 p3 => ?_⟩
    have rx := (r1.mono g2).mono g3
    have rd := r2.mono g3
    split at p3
    · rename_i n i
      simp only [RD, Rep] at rd r3
      obtain ⟨a, rfl, hn⟩ := rd
      subst r3
      split at p3
      · rename_i xs hS
        split at p3
        · rename_i j hj
          obtain ⟨vs, hv, rv⟩ := s3.lst hn hS
          have hk : ∀ ys, H3 a ≠ some (.tup ys) := fun ys z => by rw [hv] at z; cases z
          refine ⟨a, vs, i, j, rfl, rfl, hv, by rw [rv.length]; exact hj, ?_⟩
          have gr : Grow m3 H3 m3 (upd H3 a (.lst (vs.set j v))) := Grow.put (List.mem_of_getElem? hn) hk
          exact p3 m3 σ _ gr ⟨((at_.f.mono g1).mono g2).mono (g3.trans gr), s3.put hn hk ⟨_, upd_same, (RepL.set rx j rv).mono gr⟩⟩
        · exact p3.elim
      · exact p3.elim
    · exact p3.elim
end Py
set_option maxRecDepth 100000
set_option maxHeartbeats 1000000
namespace Py
open PySem PySem.Spec PyProof.Rows L2
/-! ### min of a list of data -/
def rMinP (K : PySem.W.Frag) : List V → Hp → VK → Prop := fun vs H Q => ∃ (a : Addr) (us : List V) (x : PyData) (xs : List PyData), vs = [V.ref a] ∧ SqL K H a us ∧ DpAll K H us (x :: xs) ∧ PyData.canLayAll0 (x :: xs) = true ∧ PySem.W.AlikeAll (x :: xs) ∧ PyData.depthAll (x :: xs) ≤ 60 ∧
  ∀ (i : Nat) (v : V), us[i]? = some v → (x :: xs)[i]? = some (PySem.W.minD x xs) → Q v H
theorem lay_mem : ∀ {xs : List PyData}, PyData.canLayAll0 xs = true → ∀ {x : PyData}, x ∈ xs → x.canLay0 = true
  | y :: ys, h, x, hx => by
    simp only [PyData.canLayAll0, Bool.and_eq_true] at h
    rcases List.mem_cons.1 hx with rfl | hx
    · exact h.1
    · exact lay_mem h.2 hx
theorem cr_minP {X : Cx} (hc : X.calm = true) (hu : X.A.units + 65 < cLine) : CallR X (.builtin "min") (rMinP X.K) := by
  intro pins s σ H vs ws Q I r h
  obtain ⟨a, us, x, xs, rfl, hs, hd, lay, hal, hdep, q⟩ := h
  obtain ⟨its, rv, hL, _⟩ := I.list hs
  rw [Vals.ref1 r]
  obtain ⟨as, hr⟩ := Dp.readsAll I (x :: xs) us its hd rv
  refine PySem.W.min_list_data (vs := its.toArray) (I.ok.hd hc) hL.isList (show ReadsAll s.heap its.toArray.toList (x :: xs) as from hr) hal (by omega) fun i v h' tk bs hv rd hk => ?_
  have hv' : its[i]? = some v := by simpa using hv
  obtain ⟨bs', r1, hi, hmem, _⟩ := PySem.W.readsAll_atA (vs := its.toArray) (show ReadsAll s.heap its.toArray.toList (x :: xs) as from hr) i v hv
  have cl : ((x :: xs).getD i .none).canLay0 = true := lay_mem lay hmem
  have eq := SeqAt.Reads.unique _ _ _ _ _ cl (PySem.W.reads_keeps hk r1) rd
  have hlen := rv.length
  have hil : i < us.length := by rw [hlen]; exact (List.getElem?_eq_some_iff.1 hv').1
  obtain ⟨u', e1, e2⟩ := rv.get (List.getElem?_eq_getElem hil)
  rw [hv'] at e1
  cases e1
  refine ⟨us[i], H, I.kept hk, e2, q i us[i] (List.getElem?_eq_getElem hil) ?_⟩
  rw [← eq, List.getD_eq_getElem?_getD, List.getElem?_eq_getElem hi]
  rfl
open Classical in
noncomputable def minTD : List D → Sto → Res D
  | [d], S => (match lstOf S d with
    | some ds => (match toPs (toP 11 S) ds with
      | some (x :: xs) => if h : PySem.W.AlikeAll (x :: xs) ∧ ∃ e, ∀ e' ∈ ds, toP 11 S e' = some (PySem.W.minD x xs) → e' = e then .ok (Classical.choose h.2) S else .bad
      | _ => .bad)
    | none => .bad)
  | _, _ => .bad
theorem toPs_get {f : D → Option PyData} : ∀ {ds : List D} {ps : List PyData}, toPs f ds = some ps → ∀ (i : Nat) (p : PyData), ps[i]? = some p → ∃ d, ds[i]? = some d ∧ f d = some p
  | [], ps, h, i, p, hp => by cases h; simp at hp
  | d :: ds, ps, h, i, p, hp => by
    simp only [toPs] at h
    split at h
    · rename_i q qs e1 e2
      cases h
      cases i with
      | zero => simp at hp; subst hp; exact ⟨d, rfl, e1⟩
      | succ i => simpa using toPs_get e2 i p (by simpa using hp)
    · cases h
theorem o_minT {X : Cx} : OpN (g3 X) X.mg (rMinP X.K) minTD := by
  intro E σ m H S xs vs Q s r p
  unfold minTD at p
  split at p
  · rename_i d
    simp only [RepL] at r
    obtain ⟨v, rr, rfl, r1, rfl⟩ := r
    split at p
    · rename_i ds hS
      split at p
      · rename_i x ps hP
        split at p
        · rename_i h
          obtain ⟨a, us, rfl, hq, ru⟩ := lst_at s r1 hS
          obtain ⟨t1, t2, t3⟩ := toPs_dp (n := 11) (fun d v p r e => toP_dp s 11 d v p r e) ds us (x :: ps) ru hP
          refine ⟨a, us, x, ps, rfl, SqL.of hq, t1, t2, h.1, by omega, fun i v hv hx => ?_⟩
          obtain ⟨e', he', hp'⟩ := toPs_get hP i _ hx
          have ee := Classical.choose_spec h.2 e' (List.mem_of_getElem? he') hp'
          obtain ⟨v', hv', rv'⟩ := ru.get he'
          rw [hv] at hv'
          cases hv'
          rw [ee] at rv'
          exact p m _ H (.refl _ _) s rv'
        · exact p.elim
      · exact p.elim
    · exact p.elim
  · exact p.elim
end Py
set_option maxRecDepth 100000
set_option maxHeartbeats 1000000
namespace Py
open PySem PySem.Spec PyProof.Rows L2
/-! ### what is never reached -/
def eBad : ME := fun _ _ => .bad
def sBad : MS := fun _ _ => .bad
theorem se_bad {X : Cx} {E : WX} {e : Expr} : SE X E e eBad := ⟨fun pins s σ H Q I h => by obtain ⟨m, fr, S, _, h⟩ := h; exact h.elim⟩
theorem ss_bad {X : Cx} {E : WX} {st : Stmt} : SS X E st sBad := ⟨fun pins s σ H Dn I h => by obtain ⟨m, fr, S, _, h⟩ := h; exact h.elim⟩
/-! ### lists of pairs -/
section
variable {κ α : Type} [DecidableEq κ]
def getA (kvs : List (κ × α)) (k : κ) : Option α := (kvs.find? fun kv => decide (kv.1 = k)).map (·.2)
def setA (kvs : List (κ × α)) (k : κ) (v : α) : List (κ × α) :=
  if (kvs.any fun kv => decide (kv.1 = k)) = true then kvs.map (fun kv => if kv.1 = k then (kv.1, v) else kv) else kvs ++ [(k, v)]
end
def putA {α : Type} (f : Str) (v : α) : List (Str × α) → List (Str × α)
  | [] => [(f, v)]
  | (g, x) :: r => if g = f then (g, v) :: r else (g, x) :: putA f v r
section
variable {κ : Type} [DecidableEq κ] {K : PySem.W.Frag} {H : Hp} {m : Mp}
abbrev zipK (kvs : List (κ × D)) (vs : List V) : List (κ × V) := (kvs.map (·.1)).zip vs
theorem zip_get {k : κ} : ∀ {kvs : List (κ × D)} {vs : List V}, RepL K H m (kvs.map (·.2)) vs →
    (∀ d, getA kvs k = some d → ∃ v, valV (zipK kvs vs) k = some v ∧ Rep K H m d v) ∧ (getA kvs k = none → valV (zipK kvs vs) k = none)
  | [], vs, r => ⟨fun d h => by simp [getA] at h, fun _ => rfl⟩
  | (q, x) :: kvs, vs, r => by
    simp only [List.map_cons, RepL] at r
    obtain ⟨v, r', rfl, h1, h2⟩ := r
    obtain ⟨a, b⟩ := zip_get (k := k) h2
    by_cases c : q = k
    · subst c
      refine ⟨fun d h => ?_, fun h => ?_⟩
      · simp only [getA, List.find?_cons_of_pos (p := fun kv : κ × D => decide (kv.1 = q)) (a := (q, x)) (by simp), Option.map_some] at h
        cases h
        exact ⟨v, by simp [valV, zipK], h1⟩
      · simp [getA] at h
    · have e1 : getA ((q, x) :: kvs) k = getA kvs k := by simp [getA, c]
      have e2 : valV (zipK ((q, x) :: kvs) (v :: r')) k = valV (zipK kvs r') k := by simp [valV, zipK, c]
      rw [e1, e2]
      exact ⟨a, b⟩
theorem zip_any {k : κ} : ∀ {kvs : List (κ × D)} {vs : List V}, vs.length = kvs.length → ((zipK kvs vs).any fun kv => decide (kv.1 = k)) = kvs.any fun kv => decide (kv.1 = k)
  | [], vs, h => by simp [zipK]
  | (q, x) :: kvs, [], h => by simp at h
  | (q, x) :: kvs, v :: vs, h => by
    have := zip_any (k := k) (kvs := kvs) (vs := vs) (by simpa using h)
    simp only [zipK, List.map_cons, List.zip_cons_cons, List.any_cons] at this ⊢
    rw [this]
theorem zip_map {k : κ} {d : D} {v : V} (hr : Rep K H m d v) : ∀ {kvs : List (κ × D)} {vs : List V}, RepL K H m (kvs.map (·.2)) vs → ∃ vs', RepL K H m ((kvs.map fun kv => if kv.1 = k then (kv.1, d) else kv).map (·.2)) vs' ∧
      (zipK kvs vs).map (fun kv => if kv.1 = k then (kv.1, v) else kv) = zipK (kvs.map fun kv => if kv.1 = k then (kv.1, d) else kv) vs'
  | [], vs, r => ⟨[], .nil, by simp [zipK]⟩
  | (q, x) :: kvs, vs, r => by
    simp only [List.map_cons, RepL] at r
    obtain ⟨w, r', rfl, h1, h2⟩ := r
    obtain ⟨vs', a, b⟩ := zip_map (k := k) hr h2
    by_cases c : q = k
    · subst c
      refine ⟨v :: vs', ?_, ?_⟩
      · simp only [List.map_cons, if_pos]
        exact .cons hr a
      · simp only [zipK, List.map_cons, List.zip_cons_cons, if_pos] at b ⊢
        rw [b]
    · refine ⟨w :: vs', ?_, ?_⟩
      · simp only [List.map_cons, if_neg c]
        exact .cons h1 a
      · simp only [zipK, List.map_cons, List.zip_cons_cons, if_neg c] at b ⊢
        rw [b]
theorem zip_app {kvs : List (κ × D)} {vs : List V} (h : vs.length = kvs.length) {k : κ} {v : V} {d : D} : zipK kvs vs ++ [(k, v)] = zipK (kvs ++ [(k, d)]) (vs ++ [v]) := by
  unfold zipK
  rw [List.map_append, List.zip_append (by simpa using h.symm)]
  rfl
theorem zip_set {k : κ} {d : D} {v : V} {kvs : List (κ × D)} {vs : List V} (hr : Rep K H m d v) (r : RepL K H m (kvs.map (·.2)) vs) : ∃ vs', RepL K H m ((setA kvs k d).map (·.2)) vs' ∧ putK (zipK kvs vs) k v = zipK (setA kvs k d) vs' := by
  have hl : vs.length = kvs.length := by simpa using r.length
  unfold putK setA
  rw [zip_any hl]
  split
  · exact zip_map hr r
  · refine ⟨vs ++ [v], ?_, zip_app hl⟩
    rw [List.map_append]
    exact r.append (.one hr)
end
section
variable {K : PySem.W.Frag} {H : Hp} {m : Mp}
theorem zip_look {f : Str} : ∀ {fs : List (Str × D)} {vs : List V}, RepL K H m (fs.map (·.2)) vs → (∀ d, fs.lookup f = some d → ∃ v, (zipK fs vs).lookup f = some v ∧ Rep K H m d v) ∧ (fs.lookup f = none → (zipK fs vs).lookup f = none)
  | [], vs, r => ⟨fun d h => by simp at h, fun _ => by simp [zipK]⟩
  | (q, x) :: fs, vs, r => by
    simp only [List.map_cons, RepL] at r
    obtain ⟨v, r', rfl, h1, h2⟩ := r
    obtain ⟨a, b⟩ := zip_look (f := f) h2
    cases c : f == q with
    | true =>
      refine ⟨fun d h => ?_, fun h => ?_⟩
      · simp only [List.lookup, c] at h
        cases h
        exact ⟨v, by simp [zipK, List.lookup, c], h1⟩
      · simp [List.lookup, c] at h
    | false =>
      have e1 : ((q, x) :: fs).lookup f = fs.lookup f := by simp [List.lookup, c]
      have e2 : (zipK ((q, x) :: fs) (v :: r')).lookup f = (zipK fs r').lookup f := by simp [zipK, List.lookup, c]
      rw [e1, e2]
      exact ⟨a, b⟩
theorem zip_putF {f : Str} {d : D} {v : V} (hr : Rep K H m d v) : ∀ {fs : List (Str × D)} {vs : List V}, RepL K H m (fs.map (·.2)) vs → ∃ vs', RepL K H m ((putA f d fs).map (·.2)) vs' ∧ putF f v (zipK fs vs) = zipK (putA f d fs) vs'
  | [], vs, r => ⟨[v], .one hr, by simp [zipK, putF, putA]⟩
  | (q, x) :: fs, vs, r => by
    simp only [List.map_cons, RepL] at r
    obtain ⟨w, r', rfl, h1, h2⟩ := r
    obtain ⟨vs', a, b⟩ := zip_putF hr h2
    by_cases c : q = f
    · refine ⟨v :: r', ?_, ?_⟩
      · simp only [putA, if_pos c, List.map_cons]
        exact .cons hr h2
      · simp only [zipK, List.map_cons, List.zip_cons_cons, putF, putA, if_pos c]
    · refine ⟨w :: vs', ?_, ?_⟩
      · simp only [putA, if_neg c, List.map_cons]
        exact .cons h1 a
      · simp only [zipK, List.map_cons, List.zip_cons_cons, putF, putA, if_neg c] at b ⊢
        rw [b]
end
/-! ### instances of Hall -/
abbrev hallA (K : PySem.W.Frag) : Addr := clsAt K "Hall"
structure HallC (K : PySem.W.Frag) (mg : Str → Option Value) : Prop where
  mgC : mg "Hall" = some (.ref (hallA K))
  cl : Cls K (hallA K)
def fldD (f : Str) : D → Sto → Res D
  | .ref n, S => (match S[n]? with | some (.ins fs) => (match fs.lookup f with | some d => .ok d S | none => .bad) | _ => .bad)
  | _, _ => .bad
theorem Sim.ins {G : W3} {H : Hp} {m : Mp} {S : Sto} (s : Sim G H m S) {n : Nat} {a : Addr} {fs : List (Str × D)} (h : m.at_[n]? = some a) (h2 : S[n]? = some (.ins fs)) : ∃ dx vs, H a = some (.ins (hallA G.K) dx (zipK fs vs)) ∧ RepL G.K H m (fs.map (·.2)) vs := s.at_ n a _ h h2
section
variable {X : Cx} {E : WX} {o e : Expr} {es : List Expr} {f v : ME} {g : MA} {pos apos pos' p : Pos} {fl : Str}
theorem se_fld (T : HallC X.K X.mg) (n : NoAttr X.K (hallA X.K) fl) (ha : SE X E o f) (hb : attributeBase o fl X.env (eval o X.env) = eval o X.env := by rfl) : SE X E (.Attribute o fl pos) (e1 (fldD fl) f) :=
  pe_imp (pe_fld ha hb) fun σ H Q h => by
    obtain ⟨m, fr, S, at_, h⟩ := h
    refine ⟨m, fr, S, at_, POk.bind h fun d S1 m1 v H1 e g1 s1 r1 p1 => ?_⟩
    unfold fldD at p1
    split at p1
    · rename_i k
      split at p1
      · rename_i fs hS
        split at p1
        · rename_i d hl
          simp only [RD, Rep] at r1
          obtain ⟨a, rfl, ha⟩ := r1
          obtain ⟨dx, vs, hH, rr⟩ := s1.ins ha hS
          obtain ⟨w, hw, rw'⟩ := (zip_look (f := fl) rr).1 d hl
          exact ⟨a, _, dx, _, w, rfl, hH, T.cl, n, hw, p1 m1 w H1 (.refl _ _) s1 rw'⟩
        · exact p1.elim
      · exact p1.elim
    · exact p1.elim
def sFldS (fl : Str) (v f : ME) : MS := fun fr S => (v fr S).then fun d S => (f fr S).then fun x S => match x with
  | .ref n => (match S[n]? with | some (.ins fs) => if fs.length < 1000 then .nx fr (S.set n (.ins (putA fl d fs))) else .bad | _ => .bad)
  | _ => .bad
theorem zip_len {κ : Type} {fs : List (κ × D)} {vs : List V} : (zipK fs vs).length ≤ fs.length := by unfold zipK; simp; omega
theorem ss_fld (T : HallC X.K X.mg) (n : NoAttr X.K (hallA X.K) fl) (hv : SE X E e v) (ha : SE X E o f) (hs : swapsWith e (some (.Attribute o fl pos')) pos.line X.env = pure false := by rfl) : SS X E (.Assign [.Attribute o fl pos'] e pos) (sFldS fl v f) :=
  ps_imp (ps_fld ha hv hs) fun Dn σ H h => by
    obtain ⟨m, fr, S, at_, h⟩ := h
    refine ⟨m, fr, S, at_, PSt.then h fun d S1 m1 w H1 e1 g1 s1 r1 p1 => ?_⟩
    refine ⟨m1, fr, S1, ⟨at_.f.mono g1, s1⟩, PSt.then p1 fun x S2 m2 u H2 e2 g2 s2 r2 p2 => ?_⟩
    cases x with
    | ref k =>
      dsimp only at p2
      split at p2
      · rename_i fs hS
        split at p2
        · rename_i hl
          simp only [RD, Rep] at r2
          obtain ⟨a, rfl, ha⟩ := r2
          obtain ⟨dx, vs, hH, rr⟩ := s2.ins ha hS
          have hk : ∀ xs, H2 a ≠ some (.tup xs) := fun xs z => by rw [hH] at z; cases z
          have g := Grow.put (u := .ins (hallA X.K) dx (putF fl w (zipK fs vs))) (List.mem_of_getElem? ha) hk
          obtain ⟨vs', a1, a2⟩ := zip_putF (f := fl) ((r1.mono g2).mono g) (rr.mono g)
          refine ⟨a, _, dx, _, rfl, hH, T.cl, n, Nat.lt_of_le_of_lt zip_len hl, p2 m2 σ _ g ⟨at_.f.mono ((g1.trans g2).trans g), s2.put ha hk ⟨dx, vs', ?_, a1⟩⟩⟩
          rw [upd_same, a2]
        · exact p2.elim
      · exact p2.elim
    | _ => exact p2.elim
/-! a method -/
structure Method (P : Program) (w : World) (K : PySem.W.Frag) (mg : Str → Option Value) (base : Heap) (k : Nat) (m : Str) (n : Nat) (F : List D → Sto → Res D) : Prop where
  ar : ∀ ds S, F ds S ≠ .bad → ds.length = n
  ex : ∃ fa fd ps, FnOk P w K mg base (L2N.CX P w) k fa fd ps (spF ⟨P, w, K⟩ mg n F) ∧ Meth K (hallA K) m fa ∧ Binds K fd ps []
def tMethE (C : Addr) (m : Str) (sp : Sp) (E : L2.St → XK) (ta : TE) (t : TA) : TE := fun σ H Q => ta σ H fun x H1 => ∃ a dx fs, x = .ref a ∧ H1 a = some (.ins C dx fs) ∧ fs.lookup m = none ∧ t σ H1 fun vs H2 => sp (x :: vs) H2 Q (E σ)
theorem pe_methE {CX : CXT} {k : Nat} {fa C : Addr} {fd : FuncData} {ps : List Str} {sp : Sp} {EE : L2.St → XK} {m : Str} {ta : TE} {t : TA} {pl : Sem Bool} (he : PE X o ta) (c : Cls X.K C) (hm : Meth X.K C m fa) (F : FnOk X.prog X.w X.K X.mg X.base CX k fa fd ps sp) (hr : Room k X.A) (hb : Binds X.K fd ps []) (hx : ∀ σ, PassesAt CX X σ (EE σ)) (ha : PA X (e :: es) t)
    (hst : starEach (e :: es) X.env = (false, eval e X.env) :: starEach es X.env := by rfl) (hpl : (backTo pos (starEach es X.env)).any (·.1) = false := by rfl)
    (ht : eval (.Call (.Attribute o m apos) (e :: es) [] pos) X.env = (do
      let ov ← eval o X.env
      standAt apos.atName
      let (f, first) ← holding [ov] (getMethod ov m pl)
      callWith pos f first (backTo pos (starEach (e :: es) X.env)) (backToKw pos (keywordEach [] X.env))) := by rfl) :
    PE X (.Call (.Attribute o m apos) (e :: es) [] pos) (tMethE C m sp EE ta t) := by
  refine ⟨fun pins s σ H Q I h => ?_⟩
  refine PySem.W.methodCall_KW (pl := pl) (thn (he.run pins s σ H _ I h) fun u s1 ⟨x, H1, I1, rx, a, dx, fs, ex, ea, l, q⟩ => ?_) ht
  subst ex
  obtain rfl : u = Value.ref a := rx
  refine getmeth_ok I1 ea c hm l ?_
  refine PySem.W.callWith_K (first := [.ref a]) (h₀ := X.base) I.ok.mod.kin hm.kp (thn (ha.run pos pins s1 σ H1 _ I1 q) fun us s2 ⟨vs, H2, I2, r, q2⟩ => ⟨I2.kIn, ?_⟩) hst hpl
  exact run_fnS (us := .ref a :: us) (vs := .ref a :: vs) F hr hb (hx σ) I2 (.cons rfl r) q2
theorem pe_methE0 {CX : CXT} {k : Nat} {fa C : Addr} {fd : FuncData} {ps : List Str} {sp : Sp} {EE : L2.St → XK} {m : Str} {ta : TE} {pl : Sem Bool} (he : PE X o ta) (c : Cls X.K C) (hm : Meth X.K C m fa) (F : FnOk X.prog X.w X.K X.mg X.base CX k fa fd ps sp) (hr : Room k X.A) (hb : Binds X.K fd ps []) (hx : ∀ σ, PassesAt CX X σ (EE σ))
    (ht : eval (.Call (.Attribute o m apos) [] [] pos) X.env = (do
      let ov ← eval o X.env
      standAt apos.atName
      let (f, first) ← holding [ov] (getMethod ov m pl)
      callWith pos f first (backTo pos (starEach [] X.env)) (backToKw pos (keywordEach [] X.env))) := by rfl) :
    PE X (.Call (.Attribute o m apos) [] [] pos) (tMethE C m sp EE ta tNil) := by
  refine ⟨fun pins s σ H Q I h => ?_⟩
  refine PySem.W.methodCall_KW (pl := pl) (thn (he.run pins s σ H _ I h) fun u s1 ⟨x, H1, I1, rx, a, dx, fs, ex, ea, l, q⟩ => ?_) ht
  subst ex
  obtain rfl : u = Value.ref a := rx
  refine getmeth_ok I1 ea c hm l ?_
  exact PySem.W.callWith_K0 (first := [.ref a]) I1.kIn hm.kp (run_fnS (us := [.ref a]) (vs := [.ref a]) F hr hb (hx σ) I1 (.cons rfl .nil) q)
def insOf (S : Sto) : D → Option (List (Str × D))
  | .ref n => (match S[n]? with | some (.ins fs) => some fs | _ => none)
  | _ => none
def eMeth (m : Str) (F : List D → Sto → Res D) (o : ME) (g : MA) : ME := fun fr S => (o fr S).bind fun d S => match insOf S d with
  | some fs => (match fs.lookup m with | none => (g fr S).bind fun xs S => F (d :: xs) S | some _ => .bad)
  | none => .bad
theorem meth_of {k n : Nat} {m : Str} {F : List D → Sto → Res D} (hn : ∀ ds S, F ds S ≠ .bad → ds.length = n) {σ : L2.St} {H : Hp} {Q : VK} (h : tE (g3 X) X.mg E (eMeth m F f g) σ H Q) :
    tMethE (hallA X.K) m (spF (g3 X) X.mg n F) (WE E) (tE (g3 X) X.mg E f) (tA (g3 X) X.mg E g) σ H Q := by
  obtain ⟨m', fr, S, at_, h⟩ := h
  refine ⟨m', fr, S, at_, POk.bind h fun d S1 m1 v H1 e1 g1 s1 r1 p1 => ?_⟩
  split at p1
  · rename_i fs hS
    split at p1
    · rename_i hl
      cases d with
      | ref k =>
        simp only [insOf] at hS
        split at hS
        · rename_i fs' hS'
          cases hS
          have r1' := r1
          simp only [RD, Rep] at r1
          obtain ⟨a, rfl, ha⟩ := r1
          obtain ⟨dx, vs, hH, rr⟩ := s1.ins ha hS'
          refine ⟨a, dx, _, rfl, hH, (zip_look (f := m) rr).2 hl, m1, fr, S1, ⟨at_.f.mono g1, s1⟩, POk.bind p1 fun xs S2 m2 ws H2 e2 g2 s2 r2 p2 => ?_⟩
          refine ⟨?_, m2, S2, .ref k :: xs, s2, .cons (r1'.mono g2) r2, p2.sigma fun c d H h => h⟩
          have := (RepL.cons (r1'.mono g2) r2).length
          rw [this]
          refine hn _ S2 fun hb => ?_
          rw [hb] at p2
          exact p2
        · cases hS
      | _ => cases hS
    · exact p1.elim
  · exact p1.elim
theorem se_meth {k k' n : Nat} {m : Str} {F : List D → Sto → Res D} {pl : Sem Bool} (C : Method X.prog X.w X.K X.mg X.base k' m n F) (T : HallC X.K X.mg) (hr : Room k X.A) (hk : k' ≤ k) (tk : L2N.Takes X E) (ho : SE X E o f) (ha : SA X E (e :: es) g)
    (hst : starEach (e :: es) X.env = (false, eval e X.env) :: starEach es X.env := by rfl) (hpl : (backTo pos (starEach es X.env)).any (·.1) = false := by rfl)
    (ht : eval (.Call (.Attribute o m apos) (e :: es) [] pos) X.env = (do
      let ov ← eval o X.env
      standAt apos.atName
      let (f, first) ← holding [ov] (getMethod ov m pl)
      callWith pos f first (backTo pos (starEach (e :: es) X.env)) (backToKw pos (keywordEach [] X.env))) := by rfl) :
    SE X E (.Call (.Attribute o m apos) (e :: es) [] pos) (eMeth m F f g) := by
  obtain ⟨fa, fd, ps, h1, h2, h3⟩ := C.ex
  exact pe_imp (pe_methE (pl := pl) ho T.cl h2 (h1.mono hk) hr h3 (fun σ => L2N.passAt tk σ) ha hst hpl ht) fun _ _ _ h => meth_of (k := 0) C.ar h
theorem se_meth0 {k k' n : Nat} {m : Str} {F : List D → Sto → Res D} {pl : Sem Bool} (C : Method X.prog X.w X.K X.mg X.base k' m n F) (T : HallC X.K X.mg) (hr : Room k X.A) (hk : k' ≤ k) (tk : L2N.Takes X E) (ho : SE X E o f)
    (ht : eval (.Call (.Attribute o m apos) [] [] pos) X.env = (do
      let ov ← eval o X.env
      standAt apos.atName
      let (f, first) ← holding [ov] (getMethod ov m pl)
      callWith pos f first (backTo pos (starEach [] X.env)) (backToKw pos (keywordEach [] X.env))) := by rfl) :
    SE X E (.Call (.Attribute o m apos) [] [] pos) (eMeth m F f aNil) := by
  obtain ⟨fa, fd, ps, h1, h2, h3⟩ := C.ex
  refine pe_imp (pe_methE0 (pl := pl) ho T.cl h2 (h1.mono hk) hr h3 (fun σ => L2N.passAt tk σ) ht) fun σ H Q h => ?_
  obtain ⟨m', fr, S, at_, h⟩ := h
  refine ⟨m', fr, S, at_, POk.bind h fun d S1 m1 v H1 e1 g1 s1 r1 p1 => ?_⟩
  split at p1
  · rename_i fs hS
    split at p1
    · rename_i hl
      cases d with
      | ref k =>
        simp only [insOf] at hS
        split at hS
        · rename_i fs' hS'
          cases hS
          have r1' := r1
          simp only [RD, Rep] at r1
          obtain ⟨a, rfl, ha⟩ := r1
          obtain ⟨dx, vs, hH, rr⟩ := s1.ins ha hS'
          have p2 : POk (RD (g3 X)) (g3 X) X.mg E σ m1 H1 Q (F [.ref k] S1) := p1
          refine ⟨a, dx, _, rfl, hH, (zip_look (f := m) rr).2 hl, ?_, m1, S1, [.ref k], s1, .one r1', p2.sigma fun c d H h => h⟩
          rw [(RepL.one r1').length]
          refine C.ar _ S1 fun hb => ?_
          rw [hb] at p2
          exact p2
        · cases hS
      | _ => cases hS
    · exact p1.elim
  · exact p1.elim
/-! Hall() -/
structure Maker (P : Program) (w : World) (K : PySem.W.Frag) (mg : Str → Option Value) (base : Heap) (k : Nat) (F : List D → Sto → Res D) : Prop where
  ex : ∃ fa fd ps, FnOk P w K mg base (L2N.CX P w) k fa fd ps (spF ⟨P, w, K⟩ mg 1 F) ∧ Mk K (hallA K) fa ∧ Binds K fd ps []
def eMake (F : List D → Sto → Res D) : ME := fun fr S => match F [.ref S.length] (S ++ [.ins []]) with
  | .ok .non S' => .ok (.ref S.length) S'
  | _ => .bad
theorem se_make {k k' : Nat} {F : List D → Sto → Res D} (C : Maker X.prog X.w X.K X.mg X.base k' F) (T : HallC X.K X.mg) (hr : Room k X.A) (hk : k' + 1 ≤ k) (hg : Gl X "Hall") : SE X E (.Call (.Name "Hall" p) [] [] pos) (eMake F) := by
  obtain ⟨fa, fd, ps, h1, h2, h3⟩ := C.ex
  refine pe_imp (pe_make0 (E := fun _ _ _ => False) h2 h1 (hr.mono hk) hg T.mgC h3 .nil (fun _ _ _ _ _ _ _ h => (cxn_false h).elim)) fun σ H Q h => ?_
  obtain ⟨m, fr, S, at_, h⟩ := h
  intro x dx hx hdx hne
  have hx' : (upd H dx (.own x)) x = none := by rw [upd_ne (Ne.symm hne)]; exact hx
  have s1 : Sim (g3 X) (upd (upd H dx (.own x)) x (.ins (hallA X.K) dx [])) (m.add x) (S ++ [.ins []]) := (at_.s.new hdx).alloc hx' ⟨dx, [], by rw [upd_same]; rfl, .nil⟩
  have g1 : Grow m H (m.add x) (upd (upd H dx (.own x)) x (.ins (hallA X.K) dx [])) := (Grow.new hdx).trans (.alloc hx')
  refine ⟨rfl, m.add x, S ++ [.ins []], [.ref S.length], s1, .one (.refLast at_.s.len), ?_⟩
  unfold eMake at h
  cases e : F [.ref S.length] (S ++ [.ins []]) with
  | bad => rw [e] at h; exact h.elim
  | exc c S' => rw [e] at h; exact h.elim
  | ok d S' =>
    rw [e] at h
    cases d with
    | non =>
      intro m' v H' g s r
      simp only [RD, Rep] at r
      refine ⟨r, h m' (.ref x) H' (g1.trans g) s ?_⟩
      simp only [RD, Rep]
      refine ⟨x, rfl, g.at ?_⟩
      show (m.at_ ++ [x])[S.length]? = some x
      rw [← at_.s.len]
      simp
    | _ => exact h.elim
end
end Py
set_option maxRecDepth 100000
set_option maxHeartbeats 1000000
namespace Py
open PySem PySem.Spec PyProof.Rows L2
/-! ### dicts with texts and ints as keys -/
def skey : D → Option Key
  | .str x => some (.inr x)
  | .int i => some (.inl i)
  | _ => none
theorem skey_rep {K : PySem.W.Frag} {H : Hp} {m : Mp} {d : D} {v : V} {k : Key} (r : Rep K H m d v) (e : skey d = some k) : v = kV k := by
  cases d with
  | str x => cases e; simp only [Rep] at r; exact r
  | int i => cases e; simp only [Rep] at r; exact r
  | _ => cases e
theorem Sim.dS {G : W3} {H : Hp} {m : Mp} {S : Sto} (s : Sim G H m S) {n : Nat} {a : Addr} {kvs : List (Key × D)} (h : m.at_[n]? = some a) (h2 : S[n]? = some (.dS kvs)) : ∃ vs, H a = some (.dK (zipK kvs vs)) ∧ RepL G.K H m (kvs.map (·.2)) vs := s.at_ n a _ h h2
theorem mergeK_nd : ∀ (kvs acc : List (Key × V)), ((acc ++ kvs).map (·.1)).Nodup → mergeK acc kvs = acc ++ kvs
  | [], acc, h => by simp [mergeK]
  | (k, v) :: kvs, acc, h => by
    have hn : valV acc k = none := by
      unfold valV
      rw [Option.map_eq_none_iff, List.find?_eq_none]
      intro x hx
      simp only [decide_eq_true_eq]
      intro z
      rw [List.map_append, List.nodup_append] at h
      exact h.2.2 x.1 (List.mem_map_of_mem hx) k (by simp) z
    have e : mergeK acc ((k, v) :: kvs) = mergeK (putK acc k v) kvs := rfl
    rw [e, putK_new _ hn, mergeK_nd kvs (acc ++ [(k, v)]) (by simpa using h)]
    simp
theorem zip_fst {κ α : Type} : ∀ {ks : List κ} {xs : List α}, xs.length = ks.length → (ks.zip xs).map (·.1) = ks
  | [], xs, h => by simp
  | k :: ks, [], h => by simp at h
  | k :: ks, x :: xs, h => by simp [zip_fst (ks := ks) (xs := xs) (by simpa using h)]
theorem zip_snd {κ α : Type} : ∀ {ks : List κ} {xs : List α}, xs.length = ks.length → (ks.zip xs).map (·.2) = xs
  | [], xs, h => by cases xs with | nil => rfl | cons a b => simp at h
  | k :: ks, [], h => by simp at h
  | k :: ks, x :: xs, h => by simp [zip_snd (ks := ks) (xs := xs) (by simpa using h)]
def eNewS : ME := fun _ S => .ok (.ref S.length) (S ++ [.dS []])
def eDictS (ks : List Key) (g : MA) : ME := fun fr S => (g fr (S ++ [.dS []])).bind fun xs S2 => match S2[S.length]? with
  | some (.dS []) => if xs.length = ks.length then .ok (.ref S.length) (S2.set S.length (.dS (ks.zip xs))) else .bad
  | _ => .bad
def dgetS : D → D → Sto → Res D
  | .ref n, k, S => (match S[n]?, skey k with | some (.dS kvs), some q => (match getA kvs q with | some d => .ok d S | none => .bad) | _, _ => .bad)
  | _, _, _ => .bad
def sDputS (v o i : ME) : MS := fun fr S => (v fr S).then fun d S => (o fr S).then fun x S => (i fr S).then fun k S => match x with
  | .ref n => (match S[n]?, skey k with | some (.dS kvs), some q => if kvs.length < sz then .nx fr (S.set n (.dS (setA kvs q d))) else .bad | _, _ => .bad)
  | _ => .bad
def SPP (X : Cx) (E : WX) (pos : Pos) (keys : List (Option Expr)) (values : List Expr) (ks : List Key) (g : MA) : Prop :=
  ∃ trs, PPs X pos keys values trs ∧ ∀ σ H (Q : List (V × V) → Hp → Prop), tA (g3 X) X.mg E g σ H (fun vs H' => Q ((ks.map kV).zip vs) H') → tPairs trs σ H Q
section
variable {X : Cx} {E : WX} {o e i : Expr} {es : List Expr} {f v fi : ME} {g : MA} {pos apos pos' p : Pos} {keys : List (Option Expr)} {values : List Expr} {ks : List Key}
theorem spp_nil : SPP X E pos [] [] [] aNil := ⟨[], pps_nil, fun σ H Q h => by
  obtain ⟨m, fr, S, at_, h⟩ := h
  exact h m [] H (.refl _ _) at_.s .nil⟩
theorem spp_cons {x : Str} {j : Nat} {kp : Pos} (hv : SE X E e f) (h : SPP X E pos keys values ks g) : SPP X E pos (some (.Constant (.str x) j kp) :: keys) (e :: values) (.inr x :: ks) (aCons f g) := by
  obtain ⟨trs, h1, h2⟩ := h
  refine ⟨_, pps_cons pe_str hv h1, fun σ H Q h => ?_⟩
  obtain ⟨m, fr, S, at_, h⟩ := h
  refine ⟨m, fr, S, at_, POk.bind h fun d S1 m1 v H1 e1 g1 s1 r1 p1 => ?_⟩
  refine h2 σ H1 _ ⟨m1, fr, S1, ⟨at_.f.mono g1, s1⟩, POk.bind p1 fun ds S2 m2 vs H2 e2 g2 s2 r2 p2 => ?_⟩
  exact p2 m2 (v :: vs) H2 (.refl _ _) s2 (.cons (r1.mono g2) r2)
theorem se_newS : SE X E (.Dict [] [] pos) eNewS := pe_imp pe_dnewK fun σ H Q h => by
  obtain ⟨m, fr, S, at_, h⟩ := h
  intro p hp
  exact h (m.add p) _ _ (.alloc hp) (at_.s.alloc hp ⟨[], by rw [upd_same]; rfl, .nil⟩) (.refLast at_.s.len)
theorem se_dictS (h : SPP X E pos keys values ks g) (nd : ks.Nodup) (hall : keys.all (·.isSome) = true) (hl : keys.length = values.length) (h0 : keys ≠ []) (h15 : keys.length ≤ 15) (hk15 : ks.length ≤ 15) : SE X E (.Dict keys values pos) (eDictS ks g) := by
  obtain ⟨trs, h1, h2⟩ := h
  refine pe_imp (pe_disp h1 hall hl h0 h15) fun σ H Q h => ?_
  obtain ⟨m, fr, S, at_, h⟩ := h
  intro p hp
  have s1 : Sim (g3 X) (upd H p (.dK [])) (m.add p) (S ++ [.dS []]) := at_.s.alloc hp ⟨[], by rw [upd_same]; rfl, .nil⟩
  refine h2 σ _ _ ⟨m.add p, fr, S ++ [.dS []], ⟨at_.f.mono (.alloc hp), s1⟩, POk.bind (POk.mono (.alloc hp) h) fun xs S2 m2 vs H2 e2 g2 s2 r2 p2 => ?_⟩
  split at p2
  · rename_i hS
    split at p2
    · rename_i hxl
      have hat : m2.at_[S.length]? = some p := g2.at (by show (m.at_ ++ [p])[S.length]? = some p; rw [← at_.s.len]; simp)
      obtain ⟨vs0, hH, _⟩ := s2.dS hat hS
      have hH : H2 p = some (.dK []) := hH
      have hvl : vs.length = ks.length := by rw [r2.length]; exact hxl
      have hmk : mergeK [] (ks.zip vs) = ks.zip vs := by
        rw [mergeK_nd _ [] (by rw [List.nil_append, zip_fst hvl]; exact nd)]; rfl
      have hk : ∀ xs, H2 p ≠ some (.tup xs) := fun xs z => by rw [hH] at z; cases z
      have gp := Grow.put (u := .dK (ks.zip vs)) (List.mem_of_getElem? hat) hk
      refine ⟨hH, ks.zip vs, ?_, by simp; omega, ?_⟩
      · rw [List.zip_map_left]
        rfl
      · rw [hmk]
        refine p2 m2 (.ref p) _ gp (s2.put hat hk ⟨vs, ?_, ?_⟩) ?_
        · rw [upd_same, zip_fst hxl]
        · rw [zip_snd hxl]; exact r2.mono gp
        · simp only [RD, Rep]
          exact ⟨p, rfl, hat⟩
    · exact p2.elim
  · exact p2.elim
theorem hu1 {k : Nat} {A : Around} (hr : Room k A) : A.units + 1 < cLine := by have := hr.un; omega
theorem se_dgetS {k : Nat} (hr : Room k X.A) (ho : SE X E o f) (hi : SE X E i fi) (hs : NoSl i := by exact fun _ _ => rfl) : SE X E (.Subscript o i pos) (e2 dgetS f fi) :=
  pe_imp (pe_dget (hu1 hr) ho hi hs) fun σ H Q h => by
    obtain ⟨m, fr, S, at_, h⟩ := h
    refine ⟨m, fr, S, at_, POk.bind h fun x S1 m1 v H1 e1 g1 s1 r1 p1 => ?_⟩
    refine ⟨m1, fr, S1, ⟨at_.f.mono g1, s1⟩, POk.bind p1 fun k S2 m2 u H2 e2 g2 s2 r2 p2 => ?_⟩
    have r1 := r1.mono g2
    unfold dgetS at p2
    split at p2
    · rename_i n
      split at p2
      · rename_i kvs q hS hq
        split at p2
        · rename_i d hd
          simp only [Rep] at r1
          obtain ⟨a, rfl, ha⟩ := r1
          obtain ⟨vs, hH, rr⟩ := s2.dS ha hS
          obtain ⟨w, hw, rw'⟩ := (zip_get (k := q) rr).1 d hd
          refine ⟨a, w, rfl, ?_, p2 m2 w H2 (.refl _ _) s2 rw'⟩
          rw [skey_rep r2 hq, ← hw]
          exact DGet.k hH
        · exact p2.elim
      · exact p2.elim
    · exact p2.elim
theorem ss_dputS {k : Nat} (hr : Room k X.A) (hv : SE X E e v) (ho : SE X E o f) (hi : SE X E i fi) (hs : swapsWith e (some (.Subscript o i pos')) pos.line X.env = pure false := by rfl) : SS X E (.Assign [.Subscript o i pos'] e pos) (sDputS v f fi) :=
  ps_imp (ps_dput (hu1 hr) ho hi hv hs) fun Dn σ H h => by
    obtain ⟨m, fr, S, at_, h⟩ := h
    refine ⟨m, fr, S, at_, PSt.then h fun d S1 m1 w H1 e1 g1 s1 r1 p1 => ?_⟩
    refine ⟨m1, fr, S1, ⟨at_.f.mono g1, s1⟩, PSt.then p1 fun x S2 m2 u H2 e2 g2 s2 r2 p2 => ?_⟩
    refine ⟨m2, fr, S2, ⟨at_.f.mono (g1.trans g2), s2⟩, PSt.then p2 fun k S3 m3 y H3 e3 g3' s3 r3 p3 => ?_⟩
    have r1 := r1.mono (g2.trans g3')
    have r2 := r2.mono g3'
    cases x with
    | ref n =>
      dsimp only at p3
      split at p3
      · rename_i kvs q hS hq
        split at p3
        · rename_i hl
          simp only [Rep] at r2
          obtain ⟨a, rfl, ha⟩ := r2
          obtain ⟨vs, hH, rr⟩ := s3.dS ha hS
          have hk : ∀ xs, H3 a ≠ some (.tup xs) := fun xs z => by rw [hH] at z; cases z
          have g := Grow.put (u := .dK (putK (zipK kvs vs) q w)) (List.mem_of_getElem? ha) hk
          obtain ⟨vs', a1, a2⟩ := zip_set (k := q) (r1.mono g) (rr.mono g)
          refine ⟨a, _, rfl, ?_, p3 m3 σ _ g ⟨at_.f.mono (((g1.trans g2).trans g3').trans g), s3.put ha hk ⟨vs', ?_, a1⟩⟩⟩
          · rw [skey_rep r3 hq]
            exact DPut.k hH (Nat.lt_of_le_of_lt zip_len (sz_lt hl))
          · rw [upd_same, a2]
        · exact p3.elim
      · exact p3.elim
    | _ => exact p3.elim
/-- d.get(k) -/
def dget1 : D → D → Sto → Res D
  | .ref n, k, S => (match S[n]?, skey k with | some (.dS kvs), some q => .ok ((getA kvs q).getD .non) S | _, _ => .bad)
  | _, _, _ => .bad
def eGetS (f fi : ME) : ME := fun fr S => (f fr S).bind fun x S => match x with
  | .ref n => (match S[n]? with | some (.dS _) => (fi fr S).bind fun k S => dget1 x k S | _ => .bad)
  | _ => .bad
theorem se_getS {k : Nat} {cpos : Pos} (hr : Room k X.A) (ho : SE X E o f) (hi : SE X E i fi) (m : M1 X o "get" apos i cpos := by exact ⟨rfl, rfl, rfl, rfl⟩) : SE X E (.Call (.Attribute o "get" apos) [i] [] cpos) (eGetS f fi) :=
  pe_imp (pe_dget1 (hu1 hr) ho hi m) fun σ H Q h => by
    obtain ⟨m, fr, S, at_, h⟩ := h
    refine ⟨m, fr, S, at_, POk.bind h fun x S1 m1 v H1 e1 g1 s1 r1 p1 => ?_⟩
    cases x with
    | ref n =>
      dsimp only at p1
      split at p1
      · rename_i kvs0 hS0
        have r1' := r1
        simp only [RD, Rep] at r1'
        obtain ⟨a, rfl, ha⟩ := r1'
        obtain ⟨vs0, hH0, rr0⟩ := s1.dS ha hS0
        refine ⟨a, rfl, ?_, ⟨m1, fr, S1, ⟨at_.f.mono g1, s1⟩, POk.bind p1 fun k S2 m2 u H2 e2 g2 s2 r2 p2 => ?_⟩⟩
        · exact .inl ⟨_, .inl hH0⟩
        · simp only [dget1] at p2
          split at p2
          · rename_i kvs q hS hq
            obtain ⟨vs, hH, rr⟩ := s2.dS (g2.at ha) hS
            have hz := zip_get (k := q) rr
            refine ⟨valV (zipK kvs vs) q, ?_, ?_⟩
            · rw [skey_rep r2 hq]; exact DGet.k hH
            · cases e : getA kvs q with
              | none =>
                rw [hz.2 e]
                rw [e] at p2
                exact p2 m2 _ H2 (.refl _ _) s2 (by simp only [RD, Rep, Option.getD_none])
              | some d =>
                obtain ⟨w, hw, rw'⟩ := hz.1 d e
                rw [hw]
                rw [e] at p2
                exact p2 m2 _ H2 (.refl _ _) s2 rw'
          · exact p2.elim
      · exact p1.elim
    | _ => exact p1.elim
end
end Py
set_option maxRecDepth 100000
set_option maxHeartbeats 1000000
namespace Py
open PySem PySem.Spec PyProof.Rows L2
/-! ### dicts whose keys are tuples -/
section
variable {X : Cx} {pins : List (Addr × Obj)} {σ : L2.St} {H : Hp} {s : Shared} {m : Mp}
mutual
theorem key_is (I : Inv X pins σ H s) : ∀ (d : D) (k : NestedKey) (v : V) (u : Value), keyOf d = some k → Rep X.K H m d v → RelV v u → NestedIs s.heap k u
  | .non, k, v, u, e, r, q => by simp only [Rep] at r; subst r; simp only [keyOf] at e; cases e; cases q; exact .none
  | .bl b, k, v, u, e, r, q => by simp only [Rep] at r; subst r; simp only [keyOf] at e; cases e; cases q; exact .bool rfl
  | .int i, k, v, u, e, r, q => by simp only [Rep] at r; subst r; simp only [keyOf] at e; cases e; obtain ⟨t, rfl⟩ := q; exact .int i t
  | .str x, k, v, u, e, r, q => by simp only [Rep] at r; subst r; simp only [keyOf] at e; cases e; obtain ⟨t, rfl⟩ := q; exact .text x t
  | .tup ds, k, v, u, e, r, q => by
    simp only [keyOf] at e
    cases e1 : keysOf ds with
    | none => rw [e1] at e; cases e
    | some ks =>
      rw [e1] at e
      cases e
      simp only [Rep] at r
      obtain ⟨a, vs, rfl, t, rr⟩ := r
      cases q
      obtain ⟨its, rv, ⟨o, ho, hc, n, hd⟩, _⟩ := I.tuple t.sq
      exact .tup ho hc hd (by simpa using keys_is I ds ks vs its e1 rr rv)
  | .lst _, k, v, u, e, r, q => by simp [keyOf] at e
  | .fz _, k, v, u, e, r, q => by simp [keyOf] at e
  | .ref _, k, v, u, e, r, q => by simp [keyOf] at e
  | .adr _, k, v, u, e, r, q => by simp [keyOf] at e
  | .ty _, k, v, u, e, r, q => by simp [keyOf] at e
theorem keys_is (I : Inv X pins σ H s) : ∀ (ds : List D) (ks : List NestedKey) (vs : List V) (us : List Value), keysOf ds = some ks → RepL X.K H m ds vs → Vals vs us → NestedAll s.heap ks us
  | [], ks, vs, us, e, r, q => by simp only [keysOf] at e; cases e; simp only [RepL] at r; subst r; cases q; exact .nil
  | d :: ds, ks, vs, us, e, r, q => by
    simp only [keysOf] at e
    split at e
    · rename_i k ks' e1 e2
      cases e
      simp only [RepL] at r
      obtain ⟨v, r', rfl, h1, h2⟩ := r
      cases q with
      | cons q1 q2 => exact .cons (key_is I d k v _ e1 h1 q1) (keys_is I ds ks' r' _ e2 h2 q2)
    · cases e
end
end
def pkey (d : D) : Option NestedKey := match d with
  | .tup ds => (match keyOf (.tup ds) with | some k => if k.depth ≤ 8 then some k else none | none => none)
  | _ => none
theorem pkey_ok {d : D} {k : NestedKey} (h : pkey d = some k) : keyOf d = some k ∧ k.depth ≤ 8 ∧ ∃ ds, d = .tup ds := by
  unfold pkey at h
  split at h
  · split at h
    · split at h
      · cases h
        exact ⟨by assumption, by assumption, _, rfl⟩
      · cases h
    · cases h
  · cases h
theorem pkey_ref {K : PySem.W.Frag} {H : Hp} {m : Mp} {d : D} {k : NestedKey} {v : V} (h : pkey d = some k) (r : Rep K H m d v) : ∃ b, v = .ref b := by
  obtain ⟨_, _, ds, rfl⟩ := pkey_ok h
  simp only [Rep] at r
  obtain ⟨a, vs, rfl, _⟩ := r
  exact ⟨a, rfl⟩
section
variable {K : PySem.W.Frag} {H H' : Hp} {m m' : Mp}
def DPr (K : PySem.W.Frag) (H : Hp) (m : Mp) : List (NestedKey × D) → List (NestedKey × Addr × Value) → Prop
  | [], [] => True
  | (k, d) :: kvs, (k', b, u) :: xs => k' = k ∧ (∃ w, RelV w u ∧ Rep K H m d w) ∧ (k.depth ≤ 8 ∧ ∃ e, keyOf e = some k ∧ Rep K H m e (.ref b)) ∧ DPr K H m kvs xs
  | _, _ => False
theorem DPr.of : ∀ {kvs : List (NestedKey × D)} {xs : List (NestedKey × Addr × Value)} {vs : List V}, xs.map (·.1) = kvs.map (·.1) → Vals vs (xs.map (·.2.2)) → RepL K H m (kvs.map (·.2)) vs → (∀ x ∈ xs, x.1.depth ≤ 8 ∧ ∃ d, keyOf d = some x.1 ∧ Rep K H m d (.ref x.2.1)) → DPr K H m kvs xs
  | [], [], vs, h1, h2, h3, h4 => trivial
  | [], x :: xs, vs, h1, h2, h3, h4 => by simp at h1
  | kv :: kvs, [], vs, h1, h2, h3, h4 => by simp at h1
  | (k, d) :: kvs, (k', b, u) :: xs, vs, h1, h2, h3, h4 => by
    simp only [List.map_cons, List.cons.injEq] at h1
    simp only [List.map_cons, RepL] at h3
    obtain ⟨v, r, rfl, r1, r2⟩ := h3
    simp only [List.map_cons] at h2
    cases h2 with
    | cons q1 q2 =>
      have h := h4 _ (List.mem_cons_self ..)
      exact ⟨h1.1, ⟨v, q1, r1⟩, by rw [← h1.1]; exact h, DPr.of h1.2 q2 r2 fun x hx => h4 x (List.mem_cons_of_mem _ hx)⟩
theorem DPr.out : ∀ {kvs : List (NestedKey × D)} {xs : List (NestedKey × Addr × Value)}, DPr K H m kvs xs → ∃ vs, xs.map (·.1) = kvs.map (·.1) ∧ Vals vs (xs.map (·.2.2)) ∧ RepL K H m (kvs.map (·.2)) vs ∧ (∀ x ∈ xs, x.1.depth ≤ 8 ∧ ∃ d, keyOf d = some x.1 ∧ Rep K H m d (.ref x.2.1))
  | [], [], h => ⟨[], rfl, .nil, .nil, by simp⟩
  | [], x :: xs, h => h.elim
  | kv :: kvs, [], h => h.elim
  | (k, d) :: kvs, (k', b, u) :: xs, h => by
    obtain ⟨rfl, ⟨w, q1, r1⟩, hk, h⟩ := h
    obtain ⟨vs, a1, a2, a3, a4⟩ := DPr.out h
    refine ⟨w :: vs, by simp only [List.map_cons, a1], .cons q1 a2, .cons r1 a3, fun x hx => ?_⟩
    rcases List.mem_cons.1 hx with rfl | hx
    · exact hk
    · exact a4 x hx
theorem DPr.mono (g : Grow m H m' H') : ∀ {kvs : List (NestedKey × D)} {xs : List (NestedKey × Addr × Value)}, DPr K H m kvs xs → DPr K H' m' kvs xs
  | [], [], h => trivial
  | [], x :: xs, h => h.elim
  | kv :: kvs, [], h => h.elim
  | (k, d) :: kvs, (k', b, u) :: xs, h => by
    obtain ⟨e, ⟨w, q1, r1⟩, ⟨hk, e', h1, h2⟩, h⟩ := h
    exact ⟨e, ⟨w, q1, r1.mono g⟩, ⟨hk, e', h1, h2.mono g⟩, DPr.mono g h⟩
theorem DPr.get {q : NestedKey} : ∀ {kvs : List (NestedKey × D)} {xs : List (NestedKey × Addr × Value)}, DPr K H m kvs xs → (∀ d, getA kvs q = some d → ∃ b u w, atKey xs q = some (b, u) ∧ RelV w u ∧ Rep K H m d w) ∧ (getA kvs q = none → atKey xs q = none)
  | [], [], h => ⟨fun d h => by simp [getA] at h, fun _ => rfl⟩
  | [], x :: xs, h => h.elim
  | kv :: kvs, [], h => h.elim
  | (k, d) :: kvs, (k', b, u) :: xs, h => by
    obtain ⟨rfl, ⟨w, q1, r1⟩, hk, h⟩ := h
    obtain ⟨a, c⟩ := DPr.get (q := q) h
    by_cases z : k' = q
    · subst z
      refine ⟨fun d' h => ?_, fun h => ?_⟩
      · simp only [getA, List.find?_cons_of_pos (p := fun kv : NestedKey × D => decide (kv.1 = k')) (a := (k', d)) (by simp), Option.map_some] at h
        cases h
        exact ⟨b, u, w, by simp [atKey], q1, r1⟩
      · simp [getA] at h
    · have e1 : getA ((k', d) :: kvs) q = getA kvs q := by simp [getA, z]
      have e2 : atKey ((k', b, u) :: xs) q = atKey xs q := by simp [atKey, z]
      rw [e1, e2]
      exact ⟨a, c⟩
theorem any_getA {κ α : Type} [DecidableEq κ] {q : κ} : ∀ {kvs : List (κ × α)}, (kvs.any fun kv => decide (kv.1 = q)) = (getA kvs q).isSome
  | [] => rfl
  | (k, d) :: kvs => by
    by_cases z : k = q
    · subst z; simp [getA]
    · have e1 : getA ((k, d) :: kvs) q = getA kvs q := by simp [getA, z]
      rw [e1, ← any_getA]
      simp [z]
theorem DPr.mapS {q : NestedKey} {d : D} {w : V} {u : Value} (hr : Rep K H m d w) (hv : RelV w u) : ∀ {kvs : List (NestedKey × D)} {xs : List (NestedKey × Addr × Value)}, DPr K H m kvs xs → DPr K H m (kvs.map fun kv => if kv.1 = q then (kv.1, d) else kv) (xs.map (putAt q u))
  | [], [], h => trivial
  | [], x :: xs, h => h.elim
  | kv :: kvs, [], h => h.elim
  | (k, d') :: kvs, (k', b, u') :: xs, h => by
    obtain ⟨rfl, ⟨w', q1, r1⟩, hk, h⟩ := h
    have ih := DPr.mapS (q := q) hr hv h
    by_cases z : k' = q
    · subst z
      simp only [List.map_cons, if_pos, putAt]
      exact ⟨rfl, ⟨w, hv, hr⟩, hk, ih⟩
    · simp only [List.map_cons, if_neg z, putAt]
      exact ⟨rfl, ⟨w', q1, r1⟩, hk, ih⟩
theorem DPr.app {q : NestedKey} {d e : D} {w : V} {u : Value} {b : Addr} (hr : Rep K H m d w) (hv : RelV w u) (hk : keyOf e = some q) (hd : q.depth ≤ 8) (he : Rep K H m e (.ref b)) : ∀ {kvs : List (NestedKey × D)} {xs : List (NestedKey × Addr × Value)}, DPr K H m kvs xs → DPr K H m (kvs ++ [(q, d)]) (xs ++ [(q, b, u)])
  | [], [], h => ⟨rfl, ⟨w, hv, hr⟩, ⟨hd, e, hk, he⟩, trivial⟩
  | [], x :: xs, h => h.elim
  | kv :: kvs, [], h => h.elim
  | (k, d') :: kvs, (k', b', u') :: xs, h => by
    obtain ⟨e1, h1, h2, h⟩ := h
    exact ⟨e1, h1, h2, DPr.app hr hv hk hd he h⟩
theorem DPr.put {q : NestedKey} {d e : D} {w : V} {u : Value} {b : Addr} (hr : Rep K H m d w) (hv : RelV w u) (hk : keyOf e = some q) (hd : q.depth ≤ 8) (he : Rep K H m e (.ref b)) {kvs : List (NestedKey × D)} {xs : List (NestedKey × Addr × Value)} (h : DPr K H m kvs xs) :
    DPr K H m (setA kvs q d) (storedH xs q b u) := by
  unfold setA storedH
  rw [any_getA]
  cases e1 : getA kvs q with
  | none =>
    rw [h.get.2 e1]
    simp only [Option.isSome_none, Bool.false_eq_true, if_false]
    exact h.app hr hv hk hd he
  | some d' =>
    obtain ⟨b', u', w', h1, _⟩ := h.get.1 d' e1
    rw [h1]
    simp only [Option.isSome_some, if_true]
    exact h.mapS hr hv
theorem DPr.len : ∀ {kvs : List (NestedKey × D)} {xs : List (NestedKey × Addr × Value)}, DPr K H m kvs xs → xs.length = kvs.length
  | [], [], h => rfl
  | [], x :: xs, h => h.elim
  | kv :: kvs, [], h => h.elim
  | (k, d') :: kvs, (k', b', u') :: xs, h => by
    obtain ⟨e1, h1, h2, h⟩ := h
    simp [DPr.len h]
end
/-- what stands at the dict's address -/
def IsP (G : W3) (H : Hp) (m : Mp) (a : Addr) (kvs : List (NestedKey × D)) : Prop := ∃ xs, H a = some (DPo G a xs) ∧ DPr G.K H m kvs xs
theorem isP_iff {G : W3} {H : Hp} {m : Mp} {a : Addr} {kvs : List (NestedKey × D)} : RepO G H m a (.dP kvs) ↔ IsP G H m a kvs := by
  constructor
  · rintro ⟨xs, vs, h1, h2, h3, h4, h5⟩
    exact ⟨xs, h1, .of h2 h3 h4 h5⟩
  · rintro ⟨xs, h1, h⟩
    obtain ⟨vs, a1, a2, a3, a4⟩ := h.out
    exact ⟨xs, vs, h1, a1, a2, a3, a4⟩
theorem Sim.dPa {G : W3} {H : Hp} {m : Mp} {S : Sto} (s : Sim G H m S) {n : Nat} {a : Addr} {kvs : List (NestedKey × D)} (h : m.at_[n]? = some a) (h2 : S[n]? = some (.dP kvs)) : IsP G H m a kvs := isP_iff.1 (s.at_ n a _ h h2)
theorem IsP.mono {G : W3} {H H' : Hp} {m m' : Mp} {a : Addr} {kvs : List (NestedKey × D)} (g : Grow m H m' H') (hk : ∀ u, H a = some u → H' a = some u) (h : IsP G H m a kvs) : IsP G H' m' a kvs := by
  obtain ⟨xs, h1, h2⟩ := h
  exact ⟨xs, hk _ h1, h2.mono g⟩
section
variable {X : Cx} {pins : List (Addr × Obj)} {σ : L2.St} {H : Hp} {s : Shared} {m : Mp} {a : Addr} {kvs : List (NestedKey × D)}
theorem DPo_at (I : Inv X pins σ H s) {xs : List (NestedKey × Addr × Value)} (h : H a = some (DPo (g3 X) a xs)) (r : DPr X.K H m kvs xs) : s.heap.DictOfH (nestedKind X.prog X.w) a xs ∧ (a == sysModules) = false ∧ xs.length ≤ sizeLine := by
  obtain ⟨⟨hs, hz, o, es, ep, h1, h2, h3, h4, h5⟩, _, _⟩ := I.hok a _ h
  obtain ⟨vs, a1, a2, a3, a4⟩ := r.out
  refine ⟨⟨o, es, ep, h1, h2, h3, h4, fun x hx => ?_, h5⟩, hs, hz⟩
  obtain ⟨b1, d, b2, b3⟩ := a4 x hx
  exact ⟨key_is I d x.1 _ _ b2 b3 rfl, b1⟩
theorem DPo_ok {G : W3} {h' : Heap} {H' : Hp} {xs : List (NestedKey × Addr × Value)} (hs : (a == sysModules) = false) (hz : xs.length ≤ sizeLine) (hd : h'.DictOfH (nestedKind G.P G.w) a xs) : ObjOk G.P G.w H' h' a (DPo G a xs) := by
  obtain ⟨o, es, ep, h1, h2, h3, h4, _, h5⟩ := hd
  refine ⟨⟨hs, hz, o, es, ep, h1, h2, h3, h4, h5⟩, ⟨o, h1⟩, ?_⟩
  rintro ha hb ⟨p1, p2, o', es', ep', q1, q2, q3, q4, q5⟩ hk
  exact ⟨p1, p2, o', es', ep', hk _ q1, q2, q3, q4, q5⟩
theorem storedH_len {xs : List (NestedKey × Addr × Value)} {q : NestedKey} {b : Addr} {u : Value} : (storedH xs q b u).length ≤ xs.length + 1 := by
  unfold storedH
  split <;> simp
end
theorem hu9 {k : Nat} {A : Around} (hr : Room k A) : A.units + 9 < cLine := by have := hr.un; omega
/-! k in d -/
def rInPd (G : W3) (neg : Bool) : R2 := fun x y H Q => ∃ m d kvs q a, Rep G.K H m d x ∧ pkey d = some q ∧ y = .ref a ∧ IsP G H m a kvs ∧ Q (.bl (if neg then !(getA kvs q).isSome else (getA kvs q).isSome)) H
theorem op_inPd {X : Cx} {k : Nat} (hr : Room k X.A) : OpR X (compareOp .In) (rInPd (g3 X) false) := by
  rintro pins s σ H x y u v Q I rx ry ⟨m, d, kvs, q, a, rd, hq, rfl, ⟨xs, hH, hr'⟩, hQ⟩
  obtain ⟨b, rfl⟩ := pkey_ref hq rd
  cases rx; cases ry
  obtain ⟨h1, h2, _⟩ := pkey_ok hq
  obtain ⟨c1, c2, c3⟩ := DPo_at I hH hr'
  refine wpAny_in_heap (knd := nestedKind X.prog X.w) (by show X.A.units + 1 + 8 < cLine; have := hu9 hr; omega) ⟨key_is I d q _ _ h1 rd rfl, h2⟩ c2 c1 ?_
  have e : (atKey xs q).isSome = (getA kvs q).isSome := by
    cases e : getA kvs q with
    | none => rw [hr'.get.2 e]; rfl
    | some d' => obtain ⟨b', u', w', h1, _⟩ := hr'.get.1 d' e; rw [h1]; rfl
  rw [e]
  exact ⟨.bl (getA kvs q).isSome, H, I.tok _, rfl, hQ⟩
theorem op_notInPd {X : Cx} {k : Nat} (hr : Room k X.A) : OpR X (compareOp .NotIn) (rInPd (g3 X) true) := by
  rintro pins s σ H x y u v Q I rx ry ⟨m, d, kvs, q, a, rd, hq, rfl, ⟨xs, hH, hr'⟩, hQ⟩
  obtain ⟨b, rfl⟩ := pkey_ref hq rd
  cases rx; cases ry
  obtain ⟨h1, h2, _⟩ := pkey_ok hq
  obtain ⟨c1, c2, c3⟩ := DPo_at I hH hr'
  show wpAny _ _ (do return Value.bool (!(← contains (.ref a) (.ref b)))) _ _ s
  refine wpAny_bind (wpAny_contains_heap (knd := nestedKind X.prog X.w) (by show X.A.units + 1 + 8 < cLine; have := hu9 hr; omega) ⟨key_is I d q _ _ h1 rd rfl, h2⟩ c2 c1 (wpAny_pure ?_))
  have e : (atKey xs q).isSome = (getA kvs q).isSome := by
    cases e : getA kvs q with
    | none => rw [hr'.get.2 e]; rfl
    | some d' => obtain ⟨b', u', w', h1, _⟩ := hr'.get.1 d' e; rw [h1]; rfl
  rw [e]
  exact ⟨.bl (!(getA kvs q).isSome), H, I.tok _, rfl, hQ⟩
def dPof (S : Sto) : D → Option (List (NestedKey × D))
  | .ref n => (match S[n]? with | some (.dP kvs) => some kvs | _ => none)
  | _ => none
theorem dPof_at {G : W3} {H : Hp} {m : Mp} {S : Sto} {d : D} {v : V} {kvs : List (NestedKey × D)} (s : Sim G H m S) (r : Rep G.K H m d v) (e : dPof S d = some kvs) : ∃ n a, d = .ref n ∧ v = .ref a ∧ m.at_[n]? = some a ∧ S[n]? = some (.dP kvs) ∧ IsP G H m a kvs := by
  cases d with
  | ref n =>
    simp only [dPof] at e
    split at e
    · rename_i kvs' hS
      cases e
      simp only [Rep] at r
      obtain ⟨a, rfl, ha⟩ := r
      exact ⟨n, a, rfl, rfl, ha, hS, s.dPa ha hS⟩
    · cases e
  | _ => cases e
def inPd (neg : Bool) (x y : D) (S : Sto) : Res D := match pkey x, dPof S y with
  | some q, some kvs => .ok (.bl (if neg then !(getA kvs q).isSome else (getA kvs q).isSome)) S
  | _, _ => .bad
theorem o_inPdG {X : Cx} (neg : Bool) : Op2 (g3 X) X.mg (rInPd (g3 X) neg) (inPd neg) := by
  intro E σ m H S x y v u Q s rx ry p
  unfold inPd at p
  split at p
  · rename_i q kvs hq hS
    obtain ⟨n, a, rfl, rfl, ha, hS', h⟩ := dPof_at s ry hS
    exact ⟨m, x, kvs, q, a, rx, hq, rfl, h, p m _ H (.refl _ _) s (by simp only [RD, Rep])⟩
  · exact p.elim
theorem o_inPd {X : Cx} : Op2 (g3 X) X.mg (rInPd (g3 X) false) (inPd false) := o_inPdG false
theorem o_notInPd {X : Cx} : Op2 (g3 X) X.mg (rInPd (g3 X) true) (inPd true) := o_inPdG true
/-! d[k] -/
def rGetPd (G : W3) : R2 := fun x y H Q => ∃ m d kvs q a e, x = .ref a ∧ Rep G.K H m d y ∧ pkey d = some q ∧ IsP G H m a kvs ∧ getA kvs q = some e ∧ ∀ w, Rep G.K H m e w → Q w H
theorem ix_Pd {X : Cx} {k : Nat} (hr : Room k X.A) : IxR X (rGetPd (g3 X)) := by
  rintro value slice pins s σ H x y v u Q I rx ry ⟨m, d, kvs, q, a, e, rfl, rd, hq, ⟨xs, hH, hr'⟩, he, hQ⟩ hs
  obtain ⟨b, rfl⟩ := pkey_ref hq rd
  cases rx; cases ry
  obtain ⟨h1, h2, _⟩ := pkey_ok hq
  obtain ⟨c1, c2, c3⟩ := DPo_at I hH hr'
  obtain ⟨b', u', w', g1, g2, g3'⟩ := hr'.get.1 e he
  exact tail_any c1.typeIs PySem.F.slot_dict_getitem.lookup (wpAny_getItem_heap (knd := nestedKind X.prog X.w) (by show X.A.units + 1 + 8 < cLine; have := hu9 hr; omega) ⟨key_is I d q _ _ h1 rd rfl, h2⟩ c1 g1 ⟨w', H, I.tok _, g2, hQ w' g3'⟩) hs
def dgetP (x y : D) (S : Sto) : Res D := match dPof S x, pkey y with
  | some kvs, some q => (match getA kvs q with | some d => .ok d S | none => .bad)
  | _, _ => .bad
theorem o_getPd {X : Cx} : Op2 (g3 X) X.mg (rGetPd (g3 X)) dgetP := by
  intro E σ m H S x y v u Q s rx ry p
  unfold dgetP at p
  split at p
  · rename_i kvs q hS hq
    split at p
    · rename_i d hd
      obtain ⟨n, a, rfl, rfl, ha, hS', h⟩ := dPof_at s rx hS
      exact ⟨m, y, kvs, q, a, d, rfl, ry, hq, h, hd, fun w r => p m w H (.refl _ _) s r⟩
    · exact p.elim
  · exact p.elim
theorem se_dgetP {X : Cx} {E : WX} {k : Nat} {a b : Expr} {f g : ME} {pos : Pos} (hr : Room k X.A) (ha : SE X E a f) (hb : SE X E b g) (hs : PlainIx b := by exact fun _ _ => rfl) : SE X E (.Subscript a b pos) (e2 dgetP f g) := se_ix (ix_Pd hr) o_getPd ha hb hs
/-! d[k] = v -/
def sDputP (v o i : ME) : MS := fun fr S => (v fr S).then fun d S => (o fr S).then fun x S => (i fr S).then fun k S => match x with
  | .ref n => (match dPof S (.ref n), pkey k with
    | some kvs, some q => if kvs.length < sz then .nx fr (S.set n (.dP (setA kvs q d))) else .bad
    | _, _ => .bad)
  | _ => .bad
def sPutPd (G : W3) (td ty tv : TE) : TS := fun Dn σ H => tv σ H fun v H1 => td σ H1 fun x H2 => ty σ H2 fun y H3 => ∃ m d kvs q a e, x = .ref a ∧ Rep G.K H3 m d y ∧ pkey d = some q ∧ IsP G H3 m a kvs ∧ kvs.length < sz ∧ Rep G.K H3 m e v ∧ a ∈ m.at_ ∧
  ∀ H4, (∃ xs, H4 = upd H3 a (DPo G a xs)) → IsP G H4 m a (setA kvs q e) → Dn.nx σ H4
theorem DPo_put {X : Cx} {pins : List (Addr × Obj)} {σ : L2.St} {H : Hp} {s : Shared} {m : Mp} {a b : Addr} {kvs : List (NestedKey × D)} {xs : List (NestedKey × Addr × Value)} {d e : D} {w : V} {u : Value} {q : NestedKey} {h' : Heap} {t' : Nat} (I : Inv X pins σ H s) (hH : H a = some (DPo (g3 X) a xs)) (hr : DPr X.K H m kvs xs)
    (ha : a ∈ m.at_) (hl : kvs.length < sz) (hre : Rep X.K H m e w) (hw : RelV w u) (hd : keyOf d = some q) (hd8 : q.depth ≤ 8) (hrd : Rep X.K H m d (.ref b)) (hdd : h'.DictOfH (nestedKind X.prog X.w) a (storedH xs q b u)) (hs : Heap.SameBut a s.heap h') :
    Inv X pins σ (upd H a (DPo (g3 X) a (storedH xs q b u))) { s with heap := h', toks := t' } ∧ IsP (g3 X) (upd H a (DPo (g3 X) a (storedH xs q b u))) m a (setA kvs q e) := by
  obtain ⟨c1, c2, c3⟩ := DPo_at I hH hr
  have hlen : (storedH xs q b u).length ≤ sizeLine := Nat.le_trans storedH_len (by have := hr.len; rw [this]; exact sz_ok hl)
  have he : ∃ o, h'.get? a = some o := let ⟨o, _, _, h, _⟩ := hdd; ⟨o, h⟩
  refine ⟨d_write I (by rw [hH]; exact True.intro) hs he (DPo_ok (G := g3 X) c2 hlen hdd), storedH xs q b u, upd_same, ?_⟩
  have g : Grow m H m (upd H a (DPo (g3 X) a (storedH xs q b u))) := .put ha fun ys z => by rw [hH] at z; cases z
  exact DPr.put (hre.mono g) hw hd hd8 (hrd.mono g) (hr.mono g)
section
variable {X : Cx} {E : WX} {o e i : Expr} {f v fi : ME} {pos pos' : Pos} {k : Nat}
theorem ps_putPd {td ty tv : TE} (hr : Room k X.A) (ho : PE X o td) (hi : PE X i ty) (hv : PE X e tv) (hs : swapsWith e (some (.Subscript o i pos')) pos.line X.env = pure false) : PS X (.Assign [.Subscript o i pos'] e pos) (sPutPd (g3 X) td ty tv) := by
  refine ⟨fun pins s σ H D I h => ?_⟩
  refine wpAny_Assign_Subscript (thn (hv.run pins s σ H _ I h) fun r s1 ⟨v, H1, I1, rv, q1⟩ => thn (ho.run pins s1 σ H1 _ I1 q1) fun u s2 ⟨x, H2, I2, rx, q2⟩ => thn (hi.run pins s2 σ H2 _ I2 q2) fun iv s3 ⟨y, H3, I3, ry, m, d, kvs, q, a, e, ex, rd, hq, ⟨xs, hH, hr'⟩, hl, re, ha, q3⟩ => ?_) hs
  subst ex
  obtain rfl : u = Value.ref a := rx
  obtain ⟨b, rfl⟩ := pkey_ref hq rd
  cases ry
  obtain ⟨h1, h2, _⟩ := pkey_ok hq
  obtain ⟨c1, c2, c3⟩ := DPo_at I3 hH hr'
  refine wpAny_setItem_heap (knd := nestedKind X.prog X.w) (hsz := c3) (by show X.A.units + 1 + 8 < cLine; have := hu9 hr; omega) ⟨key_is I3 d q _ _ h1 rd rfl, h2⟩ c1 fun h' hm' hs' => ?_
  obtain ⟨I4, h4⟩ := DPo_put (t' := s3.toks + (nestedKind X.prog X.w).draws q) I3 hH hr' ha hl re rv h1 h2 rd hm' hs'
  exact ⟨σ, _, I4, q3 _ ⟨_, rfl⟩ h4⟩
theorem ss_dputP (hr : Room k X.A) (hv : SE X E e v) (ho : SE X E o f) (hi : SE X E i fi) (hs : swapsWith e (some (.Subscript o i pos')) pos.line X.env = pure false := by rfl) : SS X E (.Assign [.Subscript o i pos'] e pos) (sDputP v f fi) :=
  ps_imp (ps_putPd hr ho hi hv hs) fun Dn σ H h => by
    obtain ⟨m, fr, S, at_, h⟩ := h
    refine ⟨m, fr, S, at_, PSt.then h fun d S1 m1 w H1 e1 g1 s1 r1 p1 => ?_⟩
    refine ⟨m1, fr, S1, ⟨at_.f.mono g1, s1⟩, PSt.then p1 fun x S2 m2 u H2 e2 g2 s2 r2 p2 => ?_⟩
    refine ⟨m2, fr, S2, ⟨at_.f.mono (g1.trans g2), s2⟩, PSt.then p2 fun k S3 m3 y H3 e3 g3' s3 r3 p3 => ?_⟩
    have r1 := r1.mono (g2.trans g3')
    have r2 := r2.mono g3'
    cases x with
    | ref n =>
      dsimp only at p3
      split at p3
      · rename_i kvs q hS hq
        split at p3
        · rename_i hl
          obtain ⟨n', a, e, rfl, ha, hS', hp⟩ := dPof_at s3 r2 hS
          cases e
          have hp' := hp
          obtain ⟨xs, hH, _⟩ := hp'
          have hk : ∀ xs, H3 a ≠ some (.tup xs) := fun xs z => by rw [hH] at z; cases z
          refine ⟨m3, k, kvs, q, a, d, rfl, r3, hq, hp, hl, r1, List.mem_of_getElem? ha, fun H4 ⟨xs', e4⟩ h4 => ?_⟩
          subst e4
          have g := Grow.put (u := DPo (g3 X) a xs') (List.mem_of_getElem? ha) hk
          exact p3 m3 σ _ g ⟨at_.f.mono (((g1.trans g2).trans g3').trans g), s3.put ha hk (isP_iff.2 h4)⟩
        · exact p3.elim
      · exact p3.elim
    | _ => exact p3.elim
/-! {} -/
def eNewP : ME := fun _ S => .ok (.ref S.length) (S ++ [.dP []])
theorem se_newP : SE X E (.Dict [] [] pos) eNewP := by
  constructor
  rintro pins s σ H Q I ⟨m, fr, S, at_, h⟩
  have hn : H s.heap.objs.size = none := I.hok.fresh (Nat.le_refl _)
  have hsys : (s.heap.objs.size == sysModules) = false := beq_eq_false_iff_ne.mpr (Ne.symm (Nat.ne_of_lt I.big))
  refine wpAny_Dict_empty ⟨.ref s.heap.objs.size, upd H s.heap.objs.size (DPo (g3 X) s.heap.objs.size []), I.laid (a := s.heap.objs.size) (t' := s.toks) (fun _ _ q => Heap.get?_push_of_some _ q) (Nat.le_refl _) (DPo_ok (G := g3 X) hsys (by simp) (Heap.DictOfH.new s.heap)), rfl, ?_⟩
  exact h (m.add s.heap.objs.size) _ _ (.alloc hn) (at_.s.alloc hn (isP_iff.2 ⟨[], upd_same, trivial⟩)) (.refLast at_.s.len)
end
end Py
set_option maxRecDepth 100000
set_option maxHeartbeats 1000000
namespace Py
open PySem PySem.Spec PyProof.Rows L2
/-! ### sorted -/
noncomputable def encS (S : Sto) (d : D) : PyData := (toP 11 S d).getD .none
noncomputable def sortD (S : Sto) (ds : List D) : List D := ds.mergeSort (PySem.W.dataLe false (encS S))
theorem toPs_enc {S : Sto} : ∀ {ds : List D} {ps : List PyData}, toPs (toP 11 S) ds = some ps → ps = ds.map (encS S)
  | [], ps, h => by cases h; rfl
  | d :: ds, ps, h => by
    simp only [toPs] at h
    split at h
    · rename_i p ps' e1 e2
      cases h
      rw [List.map_cons, ← toPs_enc e2]
      simp [encS, e1]
    · cases h
abbrev RvD (K : PySem.W.Frag) (H : Hp) (m : Mp) : Value → D → Prop := fun u d => ∃ w, RelV w u ∧ Rep K H m d w
theorem each_of {K : PySem.W.Frag} {H : Hp} {m : Mp} : ∀ {ds : List D} {us : List V} {its : List Value}, RepL K H m ds us → Vals us its → PySem.W.EachIs (RvD K H m) its ds
  | [], us, its, r, v => by simp only [RepL] at r; subst r; cases v; exact .nil
  | d :: ds, us, its, r, v => by
    simp only [RepL] at r
    obtain ⟨w, r', rfl, r1, r2⟩ := r
    cases v with
    | cons v1 v2 => exact .cons ⟨w, v1, r1⟩ (each_of r2 v2)
theorem of_each {K : PySem.W.Frag} {H : Hp} {m : Mp} : ∀ {ds : List D} {its : List Value}, PySem.W.EachIs (RvD K H m) its ds → ∃ us, Vals us its ∧ RepL K H m ds us
  | [], [], h => ⟨[], .nil, .nil⟩
  | [], _ :: _, h => by cases h
  | _ :: _, [], h => by cases h
  | d :: ds, u :: its, h => by
    cases h with
    | cons h1 h2 =>
      obtain ⟨w, a, b⟩ := h1
      obtain ⟨us, c, e⟩ := of_each h2
      exact ⟨w :: us, .cons a c, .cons b e⟩
def rSortD (G : W3) : List V → Hp → VK → Prop := fun vs H Q => ∃ (a : Addr) (us : List V) (m : Mp) (S : Sto) (ds : List D) (ps : List PyData), vs = [V.ref a] ∧ SqL G.K H a us ∧ Sim G H m S ∧ RepL G.K H m ds us ∧ toPs (toP 11 S) ds = some ps ∧ PySem.W.AllAlike ps ∧ PySem.W.Sortable ps ∧
  ∀ p us', H p = none → RepL G.K H m (sortD S ds) us' → Q (.ref p) (upd H p (.lst us'))
theorem cr_sortD {X : Cx} {k : Nat} (hr : Room k X.A) : CallR X (.builtin "sorted") (rSortD (g3 X)) := by
  intro pins s σ H vs ws Q I r h
  obtain ⟨a, us, m, S, ds, ps, rfl, hs, sim, rep, hps, hal, hso, q⟩ := h
  obtain ⟨its, rv, hl, hz⟩ := I.list hs
  rw [Vals.ref1 r]
  obtain ⟨t1, t2, t3⟩ := toPs_dp (n := 11) (fun d v p r e => toP_dp sim 11 d v p r e) ds us ps rep hps
  obtain ⟨as, hrd⟩ := Dp.readsAll I ps us its t1 rv
  have he := toPs_enc hps
  subst he
  have er := PySem.W.readsAll_each (encS S) hrd
  have hlen : ds.length ≤ sizeLine := by rw [← rep.length]; exact hz
  refine PySem.W.sorted_data (R := RvD X.K H m) (enc := encS S) (bs := ds) hl.isList (each_of rep rv) er hal hso hlen (fun b hb => ?_) fun out ho hE => ?_
  · have := hu65 hr
    have : (encS S b).depth ≤ PyData.depthAll (ds.map (encS S)) := by
      clear hal hso t1 t2 t3 hrd er hps q rep
      induction ds with
      | nil => simp at hb
      | cons d ds ih =>
        simp only [List.map_cons, PyData.depthAll]
        rcases List.mem_cons.1 hb with rfl | hb
        · omega
        · have := ih (by simp at hlen; omega) hb
          omega
    omega
  · obtain ⟨us', hv, hr'⟩ := of_each hE
    obtain ⟨ep, he'⟩ := PyProof.Rows.sortedAll_at s.heap its out.toArray
    have hl' : us'.length ≤ sizeLine := by rw [hv.length, ho]; exact hlen
    exact ⟨.ref _, upd H (s.heap.objs.size + 1) (.lst us'), I.laid (t' := s.toks) (fun _ _ => PyProof.Rows.sortedAll_old) (Nat.le_succ _) ⟨hl', out, ep, hv, by simpa using he'⟩, rfl, q _ us' (I.hok.fresh (Nat.le_succ _)) hr'⟩
open Classical in
noncomputable def sortedD : List D → Sto → Res D
  | [d], S => (match lstOf S d with
    | some ds => (match toPs (toP 11 S) ds with | some ps => if PySem.W.AllAlike ps ∧ PySem.W.Sortable ps then .ok (.lst (sortD S ds)) S else .bad | none => .bad)
    | none => .bad)
  | _, _ => .bad
open Classical in
noncomputable def sortedN : List D → Sto → Res D
  | [d], S => (match lstOf S d with
    | some ds => (match toPs (toP 11 S) ds with | some ps => if PySem.W.AllAlike ps ∧ PySem.W.Sortable ps then .ok (.ref S.length) (S ++ [.lst (sortD S ds)]) else .bad | none => .bad)
    | none => .bad)
  | _, _ => .bad
theorem o_sorted {X : Cx} : OpN (g3 X) X.mg (rSortD (g3 X)) sortedD := by
  intro E σ m H S xs vs Q s r p
  unfold sortedD at p
  split at p
  · rename_i d
    simp only [RepL] at r
    obtain ⟨v, rr, rfl, r1, rfl⟩ := r
    split at p
    · rename_i ds hS
      split at p
      · rename_i ps hP
        split at p
        · rename_i h
          obtain ⟨a, us, rfl, hq, ru⟩ := lst_at s r1 hS
          exact ⟨a, us, m, S, ds, ps, rfl, SqL.of hq, s, ru, hP, h.1, h.2, fun p' us' hp' hr' => p m _ _ (.new hp') (s.new hp') (.newLst s hp' hr')⟩
        · exact p.elim
      · exact p.elim
    · exact p.elim
  · exact p.elim
theorem o_sortedN {X : Cx} : OpN (g3 X) X.mg (rSortD (g3 X)) sortedN := by
  intro E σ m H S xs vs Q s r p
  unfold sortedN at p
  split at p
  · rename_i d
    simp only [RepL] at r
    obtain ⟨v, rr, rfl, r1, rfl⟩ := r
    split at p
    · rename_i ds hS
      split at p
      · rename_i ps hP
        split at p
        · rename_i h
          obtain ⟨a, us, rfl, hq, ru⟩ := lst_at s r1 hS
          exact ⟨a, us, m, S, ds, ps, rfl, SqL.of hq, s, ru, hP, h.1, h.2, fun p' us' hp' hr' => p (m.add p') _ _ (.alloc hp') (s.alloc hp' ⟨us', upd_same, hr'.mono (.alloc hp')⟩) (.refLast s.len)⟩
        · exact p.elim
      · exact p.elim
    · exact p.elim
  · exact p.elim
/-! ### list.remove -/
theorem Vals.erase : ∀ {us : List V} {its : List Value} (j : Nat), Vals us its → Vals (us.eraseIdx j) (its.eraseIdx j)
  | [], [], j, h => .nil
  | [], _ :: _, j, h => by cases h
  | _ :: _, [], j, h => by cases h
  | u :: us, i :: its, 0, h => by cases h with | cons a b => exact b
  | u :: us, i :: its, j + 1, h => by cases h with | cons a b => exact .cons a (Vals.erase j b)
theorem RepL.erase {K : PySem.W.Frag} {H : Hp} {m : Mp} : ∀ {ds : List D} {vs : List V} (j : Nat), RepL K H m ds vs → RepL K H m (ds.eraseIdx j) (vs.eraseIdx j)
  | [], vs, j, h => by simp only [RepL] at h; subst h; exact .nil
  | d :: ds, vs, 0, h => by
    simp only [RepL] at h
    obtain ⟨v, r, rfl, h1, h2⟩ := h
    exact h2
  | d :: ds, vs, j + 1, h => by
    simp only [RepL] at h
    obtain ⟨v, r, rfl, h1, h2⟩ := h
    exact .cons h1 (RepL.erase j h2)
def rRemD (K : PySem.W.Frag) : V → List V → Hp → VK → Prop := fun x xs H Q => ∃ (a : Addr) (us : List V) (y : V) (d : PyData) (ds : List PyData) (j : Nat), x = V.ref a ∧ xs = [y] ∧ H a = some (.lst us) ∧ DpAll K H us ds ∧ Dp K H y d ∧
  SeqAt.shaped (.list ds) = true ∧ SeqAt.shaped d = true ∧ (∃ z, ds[j]? = some z ∧ PyData.eqv z d = true) ∧ (∀ i z, i < j → ds[i]? = some z → PyData.eqv z d = false) ∧ Q .non (upd H a (.lst (us.eraseIdx j)))
theorem mt_removeD {X : Cx} (room : X.A.units + 65 < cLine) : MtR X "list.remove" (rRemD X.K) := by
  intro pins s σ H x xs v us' Q I rx rxs h
  obtain ⟨a, us, y, d, ds, j, rfl, rfl, hH, ha, dy, shl, shd, ⟨z, hz, hit⟩, hno, q⟩ := h
  cases rx
  obtain ⟨uy, rfl, ry⟩ := rxs.one
  obtain ⟨bs, rd⟩ := Dp.reads I d y uy dy ry
  have lay : PyData.canLayAll0 ds = true := SeqAt.canLay_of_shaped shl
  have rm : X.A.units + 1 + min (PyData.depthAll ds) d.depth < cLine := room_in_shaped shd room
  obtain ⟨hsz, its, n, rv, hlen, ho⟩ := I.lstM hH
  obtain ⟨as, rall⟩ := Dp.readsAll I ds us its ha rv
  have em : its.map (SeqAt.readOf s.heap) = ds := SeqAt.readsAll_map ds its as lay rall
  have hget : ∀ (i : Nat) (hi : i < its.length), ds[i]? = some (SeqAt.readOf s.heap its[i]) := fun i hi => by rw [← em, List.getElem?_map, List.getElem?_eq_getElem hi]; rfl
  have hj : j < its.length := by
    have := (List.getElem?_eq_some_iff.1 hz).1
    rw [← em] at this
    simpa using this
  refine call_meets PySem.F.slot_list_remove ⟨_, ho, rfl⟩ PySem.F.entry_list_remove (PySem.F.args_list_remove_2 _ _)
    (SeqAt.list_removeAt a its.toArray n none #[] uy (fun u => PyData.eqv (SeqAt.readOf s.heap u) d) j (by simpa using hj) ?_ (fun i hi hij => ?_) (by rw [List.size_toArray]; omega))
    ⟨ho, SeqAt.items_eqAt (vs := its.toArray) (show ReadsAll s.heap its.toArray.toList ds as from rall) rd lay (SeqAt.canLay_of_shaped shd) rm, ?_⟩
  · have := hget j hj
    rw [hz] at this
    simp only [List.getElem_toArray]
    rw [← Option.some.inj this]
    exact hit
  · simp only [List.getElem_toArray]
    exact hno i _ hij (hget i (by simpa using hi))
  · refine ⟨.non, _, I.lset (its' := its.eraseIdx j) hH ho ?_ (Vals.erase j rv) (by have := List.length_eraseIdx_le us j; omega), rfl, q⟩
    simp [Array.eraseIdxIfInBounds, hj]
def removeD : D → List D → Sto → Res D
  | .ref n, [y], S => (match S[n]? with
    | some (.lst ds) => (match toPs (toP 11 S) ds, dP S y with
      | some ps, some p => if ps.any (fun z => PyData.eqv z p) then .ok .non (S.set n (.lst (ds.eraseIdx (ps.findIdx fun z => PyData.eqv z p)))) else .bad
      | _, _ => .bad)
    | _ => .bad)
  | _, _, _ => .bad
theorem o_remove {X : Cx} : OpM (g3 X) X.mg (rRemD X.K) removeD := by
  intro E σ m H S x v xs vs Q s rx r p
  unfold removeD at p
  split at p
  · rename_i n y
    split at p
    · rename_i ds hS
      split at p
      · rename_i ps pp hP hy
        split at p
        · rename_i hany
          simp only [Rep] at rx
          obtain ⟨a, rfl, ha⟩ := rx
          simp only [RepL] at r
          obtain ⟨w, rr, rfl, r1, rfl⟩ := r
          obtain ⟨us, hq, r2⟩ := s.lst ha hS
          obtain ⟨t1, t2, t3⟩ := toPs_dp (n := 11) (fun d v p r e => toP_dp s 11 d v p r e) ds us ps r2 hP
          obtain ⟨d2, s2⟩ := dP_dp s r1 hy
          have hk : ∀ xs, H a ≠ some (.tup xs) := fun xs z => by rw [hq] at z; cases z
          have g := Grow.put (u := .lst (us.eraseIdx (ps.findIdx fun z => PyData.eqv z pp))) (List.mem_of_getElem? ha) hk
          have hfi : ps.findIdx (fun z => PyData.eqv z pp) < ps.length := by
            rw [List.findIdx_lt_length]
            obtain ⟨z, hz, e⟩ := List.any_eq_true.1 hany
            exact ⟨z, hz, e⟩
          refine ⟨a, us, w, pp, ps, _, rfl, rfl, hq, t1, d2, ?_, s2, ⟨_, List.getElem?_eq_getElem hfi, List.findIdx_getElem (w := hfi)⟩, fun i z hi hz => ?_, p m _ _ g (s.put ha hk ⟨_, upd_same, (r2.mono g).erase _⟩) (by simp only [RD, Rep])⟩
          · unfold SeqAt.shaped
            rw [show (PyData.list ps).canLay0 = true by simpa [PyData.canLay0] using t2, Bool.true_and]
            refine decide_eq_true ?_
            simp only [PyData.depth]
            omega
          · have hlt := (List.getElem?_eq_some_iff.1 hz)
            obtain ⟨h1, h2⟩ := hlt
            have := List.not_of_lt_findIdx hi
            rw [← h2]
            simpa using this
        · exact p.elim
      · exact p.elim
    · exact p.elim
  · exact p.elim
/-! ### texts -/
def stripD : D → D → Sto → Res D
  | .str a, .str b, S => if a.length ≤ sz then .ok (.str (Txt.stripChars a b)) S else .bad
  | _, _, _ => .bad
def splitD : D → D → Sto → Res D
  | .str a, .str b, S => if (b.length == 0) = false ∧ a.length + 2 ≤ sz then .ok (.lst ((Txt.split a b).map .str)) S else .bad
  | _, _, _ => .bad
def startsD : D → D → Sto → Res D
  | .str a, .str b, S => .ok (.bl (Txt.startswith a b)) S
  | _, _, _ => .bad
def eM1 (op : D → D → Sto → Res D) (f g : ME) : ME := fun fr S => (f fr S).bind fun x S => match x with
  | .str _ => (g fr S).bind fun y S => op x y S
  | _ => .bad
section
variable {X : Cx} {E : WX} {o e : Expr} {f g : ME} {apos pos : Pos} {name : Str} {id : String}
theorem m1_of {op : D → D → Sto → Res D} {r : V → List V → Hp → VK → Prop} (h1 : Op2 (g3 X) X.mg (fun x y H Q => r x [y] H Q) op) {σ : L2.St} {H : Hp} {Q : VK} (h : tE (g3 X) X.mg E (eM1 op f g) σ H Q) : tM1 r (tE (g3 X) X.mg E f) (tE (g3 X) X.mg E g) σ H Q := by
  obtain ⟨m, fr, S, at_, h⟩ := h
  refine ⟨m, fr, S, at_, POk.bind h fun x S1 m1 v H1 e1 g1 s1 r1 p1 => ?_⟩
  cases x with
  | str z =>
    have r1' := r1
    simp only [RD, Rep] at r1'
    refine ⟨⟨z, r1'⟩, m1, fr, S1, ⟨at_.f.mono g1, s1⟩, POk.bind p1 fun y S2 m2 u H2 e2 g2 s2 r2 p2 => ?_⟩
    exact h1 E σ m2 H2 S2 (.str z) y v u Q s2 (r1.mono g2) r2 p2
  | _ => exact p1.elim
theorem o_starts : Op2 (g3 X) X.mg (fun x y H Q => ∃ a b, x = .str a ∧ [y] = [.str b] ∧ Q (.bl (Txt.startswith a b)) H) startsD := by
  intro E σ m H S x y v u Q s rx ry p
  unfold startsD at p
  split at p
  · simp only [Rep] at rx ry
    subst rx; subst ry
    exact ⟨_, _, rfl, rfl, p m _ H (.refl _ _) s (by simp only [RD, Rep])⟩
  · exact p.elim
theorem o_strip : Op2 (g3 X) X.mg (fun x y H Q => ∃ a b, x = .str a ∧ [y] = [.str b] ∧ a.length ≤ sizeLine ∧ Q (.str (Txt.stripChars a b)) H) stripD := by
  intro E σ m H S x y v u Q s rx ry p
  unfold stripD at p
  split at p
  · split at p
    · rename_i hl
      simp only [Rep] at rx ry
      subst rx; subst ry
      exact ⟨_, _, rfl, rfl, sz_ok hl, p m _ H (.refl _ _) s (by simp only [RD, Rep])⟩
    · exact p.elim
  · exact p.elim
theorem o_split : Op2 (g3 X) X.mg (fun x y H Q => ∃ a b, x = .str a ∧ [y] = [.str b] ∧ (b.length == 0) = false ∧ a.length + 2 ≤ sizeLine ∧ rNewStrs (Txt.split a b) H Q) splitD := by
  intro E σ m H S x y v u Q s rx ry p
  unfold splitD at p
  split at p
  · split at p
    · rename_i hl
      simp only [Rep] at rx ry
      subst rx; subst ry
      exact ⟨_, _, rfl, rfl, hl.1, sz_ok hl.2, fun q hq => p m _ _ (.new hq) (s.new hq) (.newLst s hq (.strs' _))⟩
    · exact p.elim
  · exact p.elim
theorem se_m1 {op : D → D → Sto → Res D} {r : V → List V → Hp → VK → Prop} (slot : Slot "str" name id) (hty : typeOf (.builtin id) = pure (.type "method_descriptor")) (hm : MtR X id r) (h1 : Op2 (g3 X) X.mg (fun x y H Q => r x [y] H Q) op) (ho : SE X E o f) (he : SE X E e g)
    (hs : starEach [e] X.env = [(false, eval e X.env)] := by rfl) (hbase : attributeBase o name X.env (eval o X.env) = eval o X.env := by rfl) (hline : (apos.endLine == pos.line) = true := by rfl) : SE X E (.Call (.Attribute o name apos) [e] [] pos) (eM1 op f g) :=
  pe_imp (pe_m1 slot hty hm ho he hs hbase hline) fun _ _ _ h => m1_of h1 h
theorem st_starts (ho : SE X E o f) (he : SE X E e g) (hs : starEach [e] X.env = [(false, eval e X.env)] := by rfl) (hbase : attributeBase o "startswith" X.env (eval o X.env) = eval o X.env := by rfl) (hline : (apos.endLine == pos.line) = true := by rfl) : SE X E (.Call (.Attribute o "startswith" apos) [e] [] pos) (eM1 startsD f g) :=
  se_m1 PySem.F.slot_str_startswith PySem.F.type_str_startswith mt_startswith o_starts ho he hs hbase hline
theorem st_strip (ho : SE X E o f) (he : SE X E e g) (hs : starEach [e] X.env = [(false, eval e X.env)] := by rfl) (hbase : attributeBase o "strip" X.env (eval o X.env) = eval o X.env := by rfl) (hline : (apos.endLine == pos.line) = true := by rfl) : SE X E (.Call (.Attribute o "strip" apos) [e] [] pos) (eM1 stripD f g) :=
  se_m1 PySem.F.slot_str_strip PySem.F.type_str_strip mt_stripChars o_strip ho he hs hbase hline
theorem st_split (ho : SE X E o f) (he : SE X E e g) (hs : starEach [e] X.env = [(false, eval e X.env)] := by rfl) (hbase : attributeBase o "split" X.env (eval o X.env) = eval o X.env := by rfl) (hline : (apos.endLine == pos.line) = true := by rfl) : SE X E (.Call (.Attribute o "split" apos) [e] [] pos) (eM1 splitD f g) :=
  se_m1 PySem.F.slot_str_split PySem.F.type_str_split mt_split o_split ho he hs hbase hline
/-- s[i] -/
def sxD : D → D → Sto → Res D
  | .str z, .int i, S => if z.length ≤ sz then (match L2.atI z.cps.toList i with | some c => .ok (.str ⟨#[c]⟩) S | none => .bad) else .bad
  | _, _, _ => .bad
theorem o_sx : Op2 (g3 X) X.mg (rIx X.K) sxD := by
  intro E σ m H S x y v u Q s rx ry p
  unfold sxD at p
  split at p
  · split at p
    · rename_i hl
      split at p
      · rename_i c hc
        simp only [Rep] at rx ry
        subst rx; subst ry
        exact .inr (.inr ⟨_, _, c, rfl, rfl, sz_ok hl, hc, p m _ H (.refl _ _) s (by simp only [RD, Rep])⟩)
      · exact p.elim
    · exact p.elim
  · exact p.elim
end
end Py
set_option maxRecDepth 100000
set_option maxHeartbeats 1000000
namespace Py
open PySem PySem.Spec PyProof.Rows L2
/-! ### dict(pairs), len of it -/
def prsOf : List D → Option (List (NestedKey × D))
  | [] => some []
  | .tup [k, v] :: r => (match pkey k, prsOf r with | some q, some l => some ((q, v) :: l) | _, _ => none)
  | _ => none
def mergeA (acc more : List (NestedKey × D)) : List (NestedKey × D) := more.foldl (fun a p => setA a p.1 p.2) acc
theorem DPr.merge {K : PySem.W.Frag} {H : Hp} {m : Mp} : ∀ {more : List (NestedKey × D)} {ps : List (NestedKey × Addr × Value)} {acc : List (NestedKey × D)} {xs : List (NestedKey × Addr × Value)}, DPr K H m acc xs → DPr K H m more ps → DPr K H m (mergeA acc more) (storedAllH xs ps)
  | [], [], acc, xs, h, k => h
  | [], _ :: _, acc, xs, h, k => k.elim
  | _ :: _, [], acc, xs, h, k => k.elim
  | (q, d) :: more, (q', b, u) :: ps, acc, xs, h, k => by
    obtain ⟨rfl, ⟨w, h1, h2⟩, ⟨h3, e, h4, h5⟩, k⟩ := k
    have ih := DPr.merge (more := more) (ps := ps) (h.put h2 h1 h4 h3 h5) k
    exact ih
theorem storedAllH_len : ∀ (ps xs : List (NestedKey × Addr × Value)), (storedAllH xs ps).length ≤ xs.length + ps.length
  | [], xs => by simp [storedAllH]
  | (q, b, u) :: ps, xs => by
    have h1 := storedAllH_len ps (storedH xs q b u)
    have h2 := storedH_len (xs := xs) (q := q) (b := b) (u := u)
    show (storedAllH (storedH xs q b u) ps).length ≤ _
    simp only [List.length_cons]
    omega
section
variable {X : Cx} {pins : List (Addr × Obj)} {σ : L2.St} {H : Hp} {s : Shared} {m : Mp}
theorem pairs_of (I : Inv X pins σ H s) : ∀ (ds : List D) (us : List V) (its : List Value) (kvs : List (NestedKey × D)), prsOf ds = some kvs → RepL X.K H m ds us → Vals us its →
    ∃ (Tl : List Addr) (ps : List (NestedKey × Addr × Value)), Tl.length = ps.length ∧ its = Tl.map Value.ref ∧ DPr X.K H m kvs ps ∧ ∀ (j : Nat) T x, Tl[j]? = some T → ps[j]? = some x → PairAt s.heap T (.ref x.2.1) x.2.2
  | [], us, its, kvs, e, r, v => by
    simp only [prsOf] at e; cases e
    simp only [RepL] at r; subst r; cases v
    exact ⟨[], [], rfl, rfl, trivial, fun j T x h => by simp at h⟩
  | d :: ds, us, its, kvs, e, r, v => by
    unfold prsOf at e
    split at e
    · rename_i h; cases h
    · rename_i d' k y ds' heq
      cases heq
      split at e
      · rename_i q l hq hl
        cases e
        simp only [RepL] at r
        obtain ⟨w, r', rfl, r1, r2⟩ := r
        cases v with
        | @cons _ u _ its' v1 v2 =>
          obtain ⟨Tl, ps, a1, a2, a3, a4⟩ := pairs_of I ds r' its' l hl r2 v2
          simp only [Rep] at r1
          obtain ⟨T, ws, rfl, t, rr⟩ := r1
          cases v1
          simp only [RepL] at rr
          obtain ⟨w1, z1, rfl, rk, w2, z2, rfl, ry, rfl⟩ := rr
          obtain ⟨b, rfl⟩ := pkey_ref hq rk
          obtain ⟨h1, h2, _⟩ := pkey_ok hq
          obtain ⟨its2, rv2, p2, _⟩ := I.tuple t.sq
          cases rv2 with
          | @cons _ u1 _ rest1 c1 c2 =>
            cases c2 with
            | @cons _ u2 _ rest2 c3 c4 =>
              cases c4
              cases c1
              refine ⟨T :: Tl, (q, b, u2) :: ps, by simp [a1], by simp [a2], ⟨rfl, ⟨w2, c3, ry⟩, ⟨h2, k, h1, rk⟩, a3⟩, fun j T' x hT hx => ?_⟩
              cases j with
              | zero =>
                simp at hT hx
                subst hT; subst hx
                exact .inl p2
              | succ j => exact a4 j T' x (by simpa using hT) (by simpa using hx)
      · cases e
    · cases e
end
def rDictP (G : W3) : List V → Hp → VK → Prop := fun vs H Q => ∃ (a : Addr) (us : List V) (m : Mp) (ds : List D) (kvs : List (NestedKey × D)), vs = [V.ref a] ∧ SqL G.K H a us ∧ RepL G.K H m ds us ∧ prsOf ds = some kvs ∧ ds.length < sz ∧
  ∀ p xs, H p = none → DPr G.K H m (mergeA [] kvs) xs → Q (.ref p) (upd H p (DPo G p xs))
theorem cr_dictP {X : Cx} {k : Nat} (hc : X.calm = true) (hr : Room k X.A) : CallR X (.type "dict") (rDictP (g3 X)) := by
  intro pins s σ H vs ws Q I r h
  obtain ⟨a, us, m, ds, kvs, rfl, hs, rep, hp, hl, q⟩ := h
  obtain ⟨its, rv, hL, hz⟩ := I.list hs
  rw [Vals.ref1 r]
  obtain ⟨Tl, ps, a1, a2, a3, a4⟩ := pairs_of I ds us its kvs hp rep rv
  have hpl : ps.length = ds.length := by
    have h1 : its.length = Tl.length := by rw [a2]; simp
    have h2 := rv.length
    have h3 := rep.length
    omega
  obtain ⟨vs', b1, b2, b3, b4⟩ := a3.out
  have hpp : (ps.map fun x => ((.ref x.2.1, x.2.2) : Value × Value)).length = ps.length := by simp
  obtain ⟨o, n, ho, hcl, hdi, hda⟩ := hL
  have hu9' := hu65 hr
  refine call_dict_pairsH (knd := nestedKind X.prog X.w) (ps := ps) (PairArg.list a its.toArray (fun j => Tl.getD j 0) (ps.map fun x => ((.ref x.2.1, x.2.2) : Value × Value))) (I.ok.hd hc) (by show X.A.units + 1 + 1 + 8 < cLine; omega)
    ⟨⟨o, n, ho, hcl, hdi, hda⟩, ⟨by simp only [List.size_toArray, List.length_map]; rw [a2]; simp [a1], fun j kk vv hj => ?_⟩⟩ ⟨by simp, fun i key v hi => ?_⟩ (fun h' hk x hx => ?_) (by rw [hpp, hpl]; exact sz_ok (Nat.le_of_lt hl)) fun h' tk hd' hk => ?_
  · rw [List.getElem?_map] at hj
    cases e : ps[j]? with
    | none => rw [e] at hj; cases hj
    | some x =>
      rw [e] at hj
      simp at hj
      obtain ⟨rfl, rfl⟩ := hj
      have hjl : j < Tl.length := by rw [a1]; exact (List.getElem?_eq_some_iff.1 e).1
      have hT : Tl[j]? = some (Tl.getD j 0) := by rw [List.getElem?_eq_getElem hjl]; simp [List.getD, hjl]
      refine ⟨?_, a4 j _ x hT e⟩
      rw [a2]
      simp only [List.getElem?_toArray, List.getElem?_map, hT]
      rfl
  · have hi : (ps.map fun x => ((.ref x.2.1, x.2.2) : Value × Value))[i]? = some (key, v) := hi
    rw [List.getElem?_map] at hi
    cases e : ps[i]? with
    | none => rw [e] at hi; cases hi
    | some x =>
      rw [e] at hi
      simp at hi
      obtain ⟨rfl, rfl⟩ := hi
      exact ⟨x.1, x.2.1, rfl, rfl⟩
  · obtain ⟨c1, d, c2, c3⟩ := b4 x hx
    have hkey := key_is I d x.1 _ _ c2 c3 rfl
    refine ⟨NestedIs.at (fun b ob vs n hb hd => hk b ob (Nat.ne_of_lt (Heap.lt_size hb)) (by simp) hb) _ _ hkey, c1⟩
  · have hlen : (storedAllH ([] : List (NestedKey × Addr × Value)) ps).length ≤ sizeLine := Nat.le_trans (storedAllH_len ps []) (by simp only [List.length_nil]; rw [hpl]; exact sz_ok (by omega))
    have hsys : (s.heap.objs.size == sysModules) = false := beq_eq_false_iff_ne.mpr (Ne.symm (Nat.ne_of_lt I.big))
    refine ⟨.ref s.heap.objs.size, upd H s.heap.objs.size (DPo (g3 X) s.heap.objs.size (storedAllH [] ps)), I.laid (t' := tk) (fun b u e => hk b u (by simp) e) (Nat.le_refl _) (DPo_ok (G := g3 X) hsys hlen hd'), rfl, ?_⟩
    exact q _ _ (I.hok.fresh (Nat.le_refl _)) (DPr.merge (acc := []) (xs := []) trivial a3)
def dictD : List D → Sto → Res D
  | [d], S => (match lstOf S d with
    | some ds => (match prsOf ds with | some kvs => if ds.length < sz then .ok (.ref S.length) (S ++ [.dP (mergeA [] kvs)]) else .bad | none => .bad)
    | none => .bad)
  | _, _ => .bad
theorem o_dict {X : Cx} : OpN (g3 X) X.mg (rDictP (g3 X)) dictD := by
  intro E σ m H S xs vs Q s r p
  unfold dictD at p
  split at p
  · rename_i d
    simp only [RepL] at r
    obtain ⟨v, rr, rfl, r1, rfl⟩ := r
    split at p
    · rename_i ds hS
      split at p
      · rename_i kvs hP
        split at p
        · rename_i hl
          obtain ⟨a, us, rfl, hq, ru⟩ := lst_at s r1 hS
          exact ⟨a, us, m, ds, kvs, rfl, SqL.of hq, ru, hP, hl, fun p' xs hp' hx => p (m.add p') _ _ (.alloc hp') (s.alloc hp' (isP_iff.2 ⟨xs, upd_same, hx.mono (.alloc hp')⟩)) (.refLast s.len)⟩
        · exact p.elim
      · exact p.elim
    · exact p.elim
  · exact p.elim
def rLenPd (G : W3) : List V → Hp → VK → Prop := fun vs H Q => ∃ m kvs a, vs = [V.ref a] ∧ IsP G H m a kvs ∧ Q (.int (kvs.length : Nat)) H
theorem call_lenPd {X : Cx} : CallR X (.builtin "len") (rLenPd (g3 X)) := by
  intro pins s σ H vs ws Q I r h
  obtain ⟨m, kvs, a, rfl, ⟨xs, hH, hr'⟩, q⟩ := h
  rw [Vals.ref1 r]
  obtain ⟨c1, c2, c3⟩ := DPo_at I hH hr'
  refine call_len_dictH c2 c1 (by have := line63; have := c3; omega) ⟨.int (kvs.length : Nat), H, I.tok _, ⟨s.toks + 1, ?_⟩, q⟩
  rw [hr'.len]
def lenPd : List D → Sto → Res D
  | [d], S => (match dPof S d with | some kvs => .ok (.int (kvs.length : Nat)) S | none => .bad)
  | _, _ => .bad
theorem o_lenPd {X : Cx} : OpN (g3 X) X.mg (rLenPd (g3 X)) lenPd := by
  intro E σ m H S xs vs Q s r p
  unfold lenPd at p
  split at p
  · rename_i d
    simp only [RepL] at r
    obtain ⟨v, rr, rfl, r1, rfl⟩ := r
    split at p
    · rename_i kvs hS
      obtain ⟨n, a, rfl, rfl, ha, hS', h⟩ := dPof_at s r1 hS
      exact ⟨m, kvs, a, rfl, h, p m _ H (.refl _ _) s (by simp only [RD, Rep])⟩
    · exact p.elim
  · exact p.elim
end Py
set_option maxRecDepth 100000
set_option maxHeartbeats 1000000
namespace Py
open PySem PySem.Spec PyProof.Rows L2
/-! ### the methods of Hall, as the top has written them -/
structure AtM (K : PySem.W.Frag) (m qual : Str) (st : Stmt) (ps : List Str) : Prop where
  ex : ∃ f fd, Fun K m qual st f fd ∧ Meth K (hallA K) m f ∧ Binds K fd ps []
section
variable {P : Program} {w : World} {K : PySem.W.Frag} {mg : Str → Option Value} {base : Heap} {m qual : Str} {st : Stmt} {N ps : List Str} {k : Nat} {b : MS}
theorem callMS (T : AtM K m qual st ps) (Sc : FnScope N ps (defScope st)) (hb : BodyOk P w K mg base N st k b) : Method P w K mg base (k + 1) m ps.length (fnS ps.length N.length b) := by
  obtain ⟨f, fd, h1, h2, h3⟩ := T.ex
  exact ⟨fun ds S h => (fnS_ok ds S h).1, f, fd, ps, fn_soundD h1 Sc (fun cdv A outer s H E => hb qual f cdv A outer s H E) fnS_ok, h2, h3⟩
theorem callMD (T : AtM K m qual st ps) (Sc : FnScope N ps (defScope st)) (hb : BodyOk P w K mg base N st k b) : Method P w K mg base (k + 1) m ps.length (fnD ps.length N.length b) := by
  obtain ⟨f, fd, h1, h2, h3⟩ := T.ex
  exact ⟨fun ds S h => (fnD_ok ds S h).1, f, fd, ps, fn_soundD h1 Sc (fun cdv A outer s H E => hb qual f cdv A outer s H E) fnD_ok, h2, h3⟩
theorem callMk (T : AtM K "__init__" qual st ["self"]) (hm : PySem.W.makesIn K (hallA K) = true) (hk : PySem.W.keepIn K (.ref (hallA K)) = true) (Sc : FnScope N ["self"] (defScope st)) (hb : BodyOk P w K mg base N st k b) : Maker P w K mg base (k + 1) (fnS 1 N.length b) := by
  obtain ⟨f, fd, h1, h2, h3⟩ := T.ex
  exact ⟨f, fd, ["self"], fn_soundD h1 Sc (fun cdv A outer s H E => hb qual f cdv A outer s H E) fnS_ok, ⟨hm, h2.at_, h2.fn, hk⟩, h3⟩
end
def MDefF (K : PySem.W.Frag) (m qual : Str) (st : Stmt) : Prop := ∃ (f : Addr) (oc : Value) (od : Option Addr) (kV dc pm : Value) (an : Option Addr) (cd ct : Value) (sl : Array (Option Value)), PySem.W.findIn K (.ref (hallA K)) m = some (some (.ref f)) ∧ PySem.W.isFn K (.ref f) = true ∧
  K.lookup f = some ⟨oc, od, .func (PySem.W.fnOf m qual (defArgs st) (defBody st) (defScope st) .none kV dc pm an cd ct), sl⟩ ∧ PySem.W.codeIn K cd qual = true ∧ PySem.W.keepIn K (.ref f) = true
theorem hallA_eq {K : PySem.W.Frag} {C : Addr} (aC : PySem.W.nsIn K mainGlobals "Hall" = some (some (.ref C))) : hallA K = C := by
  unfold hallA clsAt; rw [aC]
theorem mdef_mk {K : PySem.W.Frag} {C : Addr} {m qual : Str} {st : Stmt} {f : Addr} {oc : Value} {od : Option Addr} {kV dc pm : Value} {an : Option Addr} {cd ct : Value} {sl : Array (Option Value)} (aC : PySem.W.nsIn K mainGlobals "Hall" = some (some (.ref C))) (a : PySem.W.findIn K (.ref C) m = some (some (.ref f))) (i : PySem.W.isFn K (.ref f) = true)
    (l : K.lookup f = some ⟨oc, od, .func (PySem.W.fnOf m qual (defArgs st) (defBody st) (defScope st) .none kV dc pm an cd ct), sl⟩) (c : PySem.W.codeIn K cd qual = true) (k : PySem.W.keepIn K (.ref f) = true) : MDefF K m qual st := by
  refine ⟨f, oc, od, kV, dc, pm, an, cd, ct, sl, ?_, i, l, c, k⟩
  rw [hallA_eq aC]; exact a
theorem MDefF.atM {K : PySem.W.Frag} {m qual : Str} {st : Stmt} {ps : List Str} (T : MDefF K m qual st)
    (hb : ∀ (kV doc pm : Value) (an : Option Addr) (cdv ct : Value) (us : List Value), us.length = ps.length → bindArgs (PySem.W.fnOf m qual (defArgs st) (defBody st) (defScope st) .none kV doc pm an cdv ct) ⟨us, []⟩ = pure (ps.zip us)) : AtM K m qual st ps := by
  obtain ⟨f, oc, od, kV, dc, pm, an, cd, ct, sl, a, i, l, c, k⟩ := T
  have F := fun_mk (st := st) l c k
  exact ⟨⟨f, _, F, ⟨a, i, k⟩, F.binds hb⟩⟩
theorem hallC_mk {K : PySem.W.Frag} {h : Heap} {mg : Str → Option Value} {C : Addr} (X : K.In h) (G : h.Ns mainGlobals mg) (aC : PySem.W.nsIn K mainGlobals "Hall" = some (some (.ref C))) (pg : PySem.W.plainGet K C Str.empty = true) (hd : PySem.W.hasDictIn K C = true) (po : PySem.W.plainOver K C = true)
    (sa : PySem.W.findIn K (.ref C) "__setattr__" = some (some (.builtin "object.__setattr__"))) : HallC K mg := by
  refine ⟨?_, ?_⟩
  · rw [hallA_eq aC]; exact PySem.W.mg_of X G aC
  · rw [hallA_eq aC]; exact ⟨pg, hd, po, sa⟩
theorem noA_mk {K : PySem.W.Frag} {C : Addr} {f : Str} (aC : PySem.W.nsIn K mainGlobals "Hall" = some (some (.ref C))) (n : PySem.W.findIn K (.ref C) f = some none) : NoAttr K (hallA K) f := by
  rw [hallA_eq aC]; exact n
theorem mk_mk {K : PySem.W.Frag} {C : Addr} (aC : PySem.W.nsIn K mainGlobals "Hall" = some (some (.ref C))) (m : PySem.W.makesIn K C = true) : PySem.W.makesIn K (hallA K) = true := by
  rw [hallA_eq aC]; exact m
theorem kp_mk {K : PySem.W.Frag} {C : Addr} (aC : PySem.W.nsIn K mainGlobals "Hall" = some (some (.ref C))) (m : PySem.W.keepIn K (.ref C) = true) : PySem.W.keepIn K (.ref (hallA K)) = true := by
  rw [hallA_eq aC]; exact m
/-! ### a def that calls itself: so many levels deep -/
def FBad : List D → Sto → Res D := fun _ _ => .bad
noncomputable def recF (n N : Nat) (b : (List D → Sto → Res D) → MS) : Nat → List D → Sto → Res D
  | 0 => FBad
  | j + 1 => fnS n N (b (recF n N b j))
theorem callee_rec {P : Program} {w : World} {K : PySem.W.Frag} {mg : Str → Option Value} {base : Heap} {x : Str} {st : Stmt} {N ps : List Str} {k : Nat} {b : (List D → Sto → Res D) → MS} (T : At0 K mg x st ps) (Sc : FnScope N ps (defScope st))
    (hb : ∀ (j : Nat) (F : List D → Sto → Res D), Callee P w K mg base (k + j) x ps.length F → BodyOk P w K mg base N st (k + j) (b F)) : ∀ j, Callee P w K mg base (k + j) x ps.length (recF ps.length N.length b j)
  | 0 => by
    obtain ⟨f, fd, h1, h2, h3⟩ := T.ex
    refine ⟨fun ds S h => (h rfl).elim, f, fd, ps, ⟨fun vs H Q E h => ?_, fun A outer s H args us vs Q E hr he hb hv hs => ?_⟩, h2, h1.kp, h3⟩
    · obtain ⟨_, m, S, ds, _, _, h⟩ := h; exact h.elim
    · obtain ⟨_, m, S, ds, _, _, h⟩ := hs; exact h.elim
  | j + 1 => callS T Sc (hb j _ (callee_rec T Sc hb j))
end Py
set_option maxRecDepth 100000
set_option maxHeartbeats 1000000
namespace Py
open PySem PySem.Spec PyProof.Rows L2
/-! ### a list of anything == [] -/
def rEqNil : R2 := fun x y H Q => ∃ a b xs, x = .ref a ∧ y = .ref b ∧ H a = some (.lst xs) ∧ H b = some (.lst []) ∧ Q (.bl xs.isEmpty) H
def rNeNil : R2 := fun x y H Q => ∃ a b xs, x = .ref a ∧ y = .ref b ∧ H a = some (.lst xs) ∧ H b = some (.lst []) ∧ Q (.bl (!xs.isEmpty)) H
def eqNilD (neg : Bool) (x y : D) (S : Sto) : Res D := match lstOf S x, lstOf S y with
  | some xs, some [] => .ok (.bl (if neg then !xs.isEmpty else xs.isEmpty)) S
  | _, _ => .bad
section
variable {X : Cx}
theorem op_eqNil (hu : X.A.units < cLine) : OpR X (compareOp .Eq) rEqNil := by
  intro pins s σ H x y v u Q I rx ry h
  obtain ⟨a, b, xs, rfl, rfl, ha, hb, q⟩ := h
  cases (show v = Value.ref a from rx)
  cases (show u = Value.ref b from ry)
  obtain ⟨us, r1, p1, _⟩ := I.list (SqL.of ha)
  obtain ⟨ws, r2, p2, _⟩ := I.list (SqL.of hb)
  have la := r1.length
  have lb : ws = [] := List.length_eq_zero_iff.1 r2.length.symm
  subst lb
  cases xs with
  | nil =>
    have : us = [] := List.length_eq_zero_iff.1 la.symm
    subst this
    exact SeqAt.eq_listAt (e := fun _ => true) p1.isList p2.isList rfl (by omega) (fun j h1 h2 => by simp at h1) ⟨.bl true, H, I, rfl, q⟩
  | cons z zs =>
    exact SeqAt.eq_list_lengthsAt p1.isList p2.isList (by simp [← la]) (by omega) ⟨.bl false, H, I, rfl, q⟩
theorem op_neNil (hu : X.A.units < cLine) : OpR X (compareOp .NotEq) rNeNil := by
  intro pins s σ H x y v u Q I rx ry h
  obtain ⟨a, b, xs, rfl, rfl, ha, hb, q⟩ := h
  cases (show v = Value.ref a from rx)
  cases (show u = Value.ref b from ry)
  obtain ⟨us, r1, p1, _⟩ := I.list (SqL.of ha)
  obtain ⟨ws, r2, p2, _⟩ := I.list (SqL.of hb)
  have la := r1.length
  have lb : ws = [] := List.length_eq_zero_iff.1 r2.length.symm
  subst lb
  cases xs with
  | nil =>
    have : us = [] := List.length_eq_zero_iff.1 la.symm
    subst this
    exact SeqAt.RcNeAt.lists (e := fun _ => true) p1.isList p2.isList rfl (by omega) (fun j h1 h2 => by simp at h1) _ _ _ _ ⟨.bl false, H, I, rfl, q⟩
  | cons z zs =>
    exact SeqAt.RcNeAt.lists_lengths p1.isList p2.isList (by simp [← la]) (by omega) _ _ _ _ ⟨.bl true, H, I, rfl, q⟩
theorem o_eqNil : Op2 (g3 X) X.mg rEqNil (eqNilD false) := by
  intro E σ m H S x y v u Q s rx ry p
  unfold eqNilD at p
  split at p
  · rename_i xs e1 e2
    obtain ⟨a, vs, rfl, ha, r1⟩ := lst_at s rx e1
    obtain ⟨b, ws, rfl, hb, r2⟩ := lst_at s ry e2
    simp only [RepL] at r2
    subst r2
    refine ⟨a, b, vs, rfl, rfl, ha, hb, ?_⟩
    have hl : vs.isEmpty = xs.isEmpty := by
      have := r1.length
      cases xs <;> cases vs <;> simp at this ⊢
    rw [hl]
    exact p m _ H (.refl _ _) s (by simp [RD, Rep])
  · exact p.elim
theorem o_neNil : Op2 (g3 X) X.mg rNeNil (eqNilD true) := by
  intro E σ m H S x y v u Q s rx ry p
  unfold eqNilD at p
  split at p
  · rename_i xs e1 e2
    obtain ⟨a, vs, rfl, ha, r1⟩ := lst_at s rx e1
    obtain ⟨b, ws, rfl, hb, r2⟩ := lst_at s ry e2
    simp only [RepL] at r2
    subst r2
    refine ⟨a, b, vs, rfl, rfl, ha, hb, ?_⟩
    have hl : vs.isEmpty = xs.isEmpty := by
      have := r1.length
      cases xs <;> cases vs <;> simp at this ⊢
    rw [hl]
    exact p m _ H (.refl _ _) s (by simp [RD, Rep])
  · exact p.elim
end
end Py
set_option maxRecDepth 100000
set_option maxHeartbeats 4000000
namespace Py
open PySem PySem.Spec PyProof.Rows L2
def g_PLAIN : D := .tup [.tup [.str "turn"], .tup [.str "mirror"], .tup [.str "invert"], .tup [.str "halve"]]
noncomputable def b_is_whole : MS :=
  (sRet (eAnd (eCall isiD (aCons (eVar 0) (aCons (eC (.ty "int")) aNil))) (eAnd (eNot (eCall isiD (aCons (eVar 0) (aCons (eC (.ty "bool")) aNil)))) (eChain leD leD (eVar 1) (eVar 0) (eVar 2)))))
noncomputable def F_is_whole : List D → Sto → Res D := fnS 3 3 b_is_whole
noncomputable def b_is_picture : MS :=
  (sSeq (sIf (tOrM (tNotM (tVal (eCall isiD (aCons (eVar 0) (aCons (eC (.ty "tuple")) aNil))))) (tNotM (tVal (eChain leD leD (eC (.int 1)) (eCall lenD (aCons (eVar 0) aNil)) (eC (.int 8))))))
    (sRet (eC (.bl false)))
    sNil)
    (sSeq (sIf (tNotM (tVal (eCall allD (aCons (eComp [1] (iSeq (eVar 0)) (gN 1) tTrue (eAnd (eCall isiD (aCons (eVar 1) (aCons (eC (.ty "tuple")) aNil))) (eChain leD leD (eC (.int 1)) (eCall lenD (aCons (eVar 1) aNil)) (eC (.int 8))))) aNil))))
    (sRet (eC (.bl false)))
    sNil)
    (sSeq (sIf (tNotM (tVal (eCall allD (aCons (eComp [1] (iSeq (eVar 0)) (gN 1) tTrue (e2 (eqD false) (eCall lenD (aCons (eVar 1) aNil)) (eCall lenD (aCons (e2 ixD (eVar 0) (eC (.int 0))) aNil)))) aNil))))
    (sRet (eC (.bl false)))
    sNil)
    (sRet (eCall allD (aCons (eComp [1] (iSeq (eVar 0)) (gN 1) tTrue (eCall allD (aCons (eComp [2] (iSeq (eVar 1)) (gN 2) tTrue (eCall F_is_whole (aCons (eVar 2) (aCons (eC (.int 0)) (aCons (eC (.int 9)) aNil))))) aNil))) aNil))))))
noncomputable def F_is_picture : List D → Sto → Res D := fnS 1 3 b_is_picture
noncomputable def b_need_picture : MS :=
  (sIf (tNotM (tVal (eCall F_is_picture (aCons (eVar 0) aNil))))
    (sRaise "NoPicture")
    sNil)
noncomputable def F_need_picture : List D → Sto → Res D := fnS 1 1 b_need_picture
noncomputable def b_need_size : MS :=
  (sIf (tOrM (tNotM (tVal (eCall F_is_whole (aCons (eVar 0) (aCons (eC (.int 1)) (aCons (eC (.int 8)) aNil)))))) (tNotM (tVal (eCall F_is_whole (aCons (eVar 1) (aCons (eC (.int 1)) (aCons (eC (.int 8)) aNil)))))))
    (sRaise "NoSize")
    sNil)
noncomputable def F_need_size : List D → Sto → Res D := fnS 2 2 b_need_size
noncomputable def b_turned_rows : MS :=
  (sRet (eCall tupleD (aCons (eComp [1] (iRng1' (aCons (eCall lenD (aCons (e2 ixD (eVar 0) (eC (.int 0))) aNil)) aNil)) (gN 1) tTrue (eCall tupleD (aCons (eComp [2] (iSeq (eStep (-1) (eVar 0))) (gN 2) tTrue (e2 ixD (eVar 2) (eVar 1))) aNil))) aNil)))
noncomputable def F_turned_rows : List D → Sto → Res D := fnS 1 3 b_turned_rows
noncomputable def b_mirrored_rows : MS :=
  (sRet (eCall tupleD (aCons (eComp [1] (iSeq (eVar 0)) (gN 1) tTrue (eStep (-1) (eVar 1))) aNil)))
noncomputable def F_mirrored_rows : List D → Sto → Res D := fnS 1 2 b_mirrored_rows
noncomputable def b_is_deed : MS :=
  (sSeq (sIf (tOrM (tNotM (tVal (eCall isiD (aCons (eVar 0) (aCons (eC (.ty "tuple")) aNil))))) (tOrM (tVal (e2 (eqD false) (eCall lenD (aCons (eVar 0) aNil)) (eC (.int 0)))) (tNotM (tVal (eCall isiD (aCons (e2 ixD (eVar 0) (eC (.int 0))) (aCons (eC (.ty "str")) aNil)))))))
    (sRet (eC (.bl false)))
    sNil)
    (sSeq (sIf (tVal (e2 (eqD false) (e2 ixD (eVar 0) (eC (.int 0))) (eC (.str "light"))))
    (sRet (eAnd (e2 (eqD false) (eCall lenD (aCons (eVar 0) aNil)) (eC (.int 2))) (eCall F_is_whole (aCons (e2 ixD (eVar 0) (eC (.int 1))) (aCons (e2 subD (eC (.int 0)) (eC (.int 9))) (aCons (eC (.int 9)) aNil))))))
    sNil)
    (sSeq (sIf (tVal (e2 (eqD true) (e2 ixD (eVar 0) (eC (.int 0))) (eC (.str "cut"))))
    (sRet (e2 (inD false) (eVar 0) (eC g_PLAIN)))
    sNil)
    (sSeq (sIf (tOrM (tVal (e2 (eqD true) (eCall lenD (aCons (eVar 0) aNil)) (eC (.int 5)))) (tNotM (tVal (eCall allD (aCons (eComp [1] (iSeq (eSlc (eVar 0) (oSome (eC (.int 1))) (oSome (eC (.int 3))))) (gN 1) tTrue (eCall F_is_whole (aCons (eVar 1) (aCons (eC (.int 0)) (aCons (e2 subD (eC (.int 8)) (eC (.int 1))) aNil))))) aNil)))))
    (sRet (eC (.bl false)))
    sNil)
    (sRet (eCall allD (aCons (eComp [1] (iSeq (eSlc (eVar 0) (oSome (eC (.int 3))) oNone)) (gN 1) tTrue (eCall F_is_whole (aCons (eVar 1) (aCons (eC (.int 1)) (aCons (eC (.int 8)) aNil))))) aNil)))))))
noncomputable def F_is_deed : List D → Sto → Res D := fnS 1 2 b_is_deed
noncomputable def b_are_deeds : MS :=
  (sRet (eAnd (eCall isiD (aCons (eVar 0) (aCons (eC (.ty "tuple")) aNil))) (eAnd (e2 leD (eCall lenD (aCons (eVar 0) aNil)) (eC (.int 20))) (eCall allD (aCons (eComp [1] (iSeq (eVar 0)) (gN 1) tTrue (eCall F_is_deed (aCons (eVar 1) aNil))) aNil)))))
noncomputable def F_are_deeds : List D → Sto → Res D := fnS 1 2 b_are_deeds
noncomputable def b_need_deeds : MS :=
  (sIf (tNotM (tVal (eCall F_are_deeds (aCons (eVar 0) aNil))))
    (sRaise "NoDeeds")
    sNil)
noncomputable def F_need_deeds : List D → Sto → Res D := fnS 1 1 b_need_deeds
noncomputable def b_moved : MS :=
  (sSeq (sIf (tVal (e2 (eqD false) (e2 ixD (eVar 1) (eC (.int 0))) (eC (.str "turn"))))
    (sRet (eCall F_turned_rows (aCons (eVar 0) aNil)))
    sNil)
    (sSeq (sIf (tVal (e2 (eqD false) (e2 ixD (eVar 1) (eC (.int 0))) (eC (.str "mirror"))))
    (sRet (eCall F_mirrored_rows (aCons (eVar 0) aNil)))
    sNil)
    (sSeq (sIf (tVal (e2 (eqD false) (e2 ixD (eVar 1) (eC (.int 0))) (eC (.str "halve"))))
    (sRet (eCall tupleD (aCons (eComp [6] (iSeq (eStep 2 (eVar 0))) (gN 6) tTrue (eStep 2 (eVar 6))) aNil)))
    sNil)
    (sSeq (sIf (tVal (e2 (eqD false) (e2 ixD (eVar 1) (eC (.int 0))) (eC (.str "cut"))))
    (sSeq (sAsg (gT 4 (gsC (gN 2) (gsC (gN 3) (gsC (gN 4) (gsC (gN 5) gs0))))) (eSlc (eVar 1) (oSome (eC (.int 1))) oNone))
    (sSeq (sIf (tOrM (tVal (e2 gtD (e2 addD (eVar 2) (eVar 4)) (eCall lenD (aCons (e2 ixD (eVar 0) (eC (.int 0))) aNil)))) (tVal (e2 gtD (e2 addD (eVar 3) (eVar 5)) (eCall lenD (aCons (eVar 0) aNil)))))
    (sRaise "NoCut")
    sNil)
    (sRet (eCall tupleD (aCons (eComp [6] (iSeq (eSlc (eVar 0) (oSome (eVar 3)) (oSome (e2 addD (eVar 3) (eVar 5))))) (gN 6) tTrue (eSlc (eVar 6) (oSome (eVar 2)) (oSome (e2 addD (eVar 2) (eVar 4))))) aNil)))))
    sNil)
    (sRet (eVar 0))))))
noncomputable def F_moved : List D → Sto → Res D := fnS 2 7 b_moved
noncomputable def b_lit : MS :=
  (sSeq (sIf (tVal (e2 (eqD false) (e2 ixD (eVar 1) (eC (.int 0))) (eC (.str "invert"))))
    (sRet (eCall tupleD (aCons (eComp [2] (iSeq (eVar 0)) (gN 2) tTrue (e2 subD (eC (.int 9)) (eVar 2))) aNil)))
    sNil)
    (sSeq (sIf (tVal (e2 (eqD false) (e2 ixD (eVar 1) (eC (.int 0))) (eC (.str "light"))))
    (sRet (eCall tupleD (aCons (eComp [2] (iSeq (eVar 0)) (gN 2) tTrue (eCall maxD (aCons (eC (.int 0)) (aCons (eCall minD (aCons (eC (.int 9)) (aCons (e2 addD (eVar 2) (e2 ixD (eVar 1) (eC (.int 1)))) aNil))) aNil)))) aNil)))
    sNil)
    (sRet (eVar 0))))
noncomputable def F_lit : List D → Sto → Res D := fnS 2 3 b_lit
noncomputable def b_behind : MS :=
  (sSeq (sFor (iSeq (eVar 1)) (gN 2)
    (sSeq (sSet 0 (eCall F_moved (aCons (eVar 0) (aCons (eVar 2) aNil))))
    (sSet 0 (eCall tupleD (aCons (eComp [3] (iSeq (eVar 0)) (gN 3) tTrue (eCall F_lit (aCons (eVar 3) (aCons (eVar 2) aNil)))) aNil)))))
    (sRet (eVar 0)))
noncomputable def F_behind : List D → Sto → Res D := fnS 2 4 b_behind
noncomputable def b_done : MS :=
  (sSeq (sExpr (eCall F_need_picture (aCons (eVar 0) aNil)))
    (sSeq (sExpr (eCall F_need_deeds (aCons (eVar 1) aNil)))
    (sRet (eCall F_behind (aCons (eVar 0) (aCons (eVar 1) aNil))))))
noncomputable def F_done : List D → Sto → Res D := fnS 2 2 b_done
noncomputable def b_map_of : MS :=
  (sSeq (sSet 3 (eCall tupleD (aCons (eComp [5] (iRng1' (aCons (eVar 1) aNil)) (gN 5) tTrue (eCall tupleD (aCons (eComp [6] (iRng1' (aCons (eVar 0) aNil)) (gN 6) tTrue (eTup (aCons (eVar 5) (aCons (eVar 6) aNil)))) aNil))) aNil)))
    (sSeq (sFor (iSeq (eVar 2)) (gN 4)
    (sSet 3 (eCall F_moved (aCons (eVar 3) (aCons (eVar 4) aNil)))))
    (sRet (eVar 3))))
noncomputable def F_map_of : List D → Sto → Res D := fnS 3 7 b_map_of
noncomputable def b_size : MS :=
  (sSeq (sExpr (eCall F_need_size (aCons (eVar 0) (aCons (eVar 1) aNil))))
    (sSeq (sExpr (eCall F_need_deeds (aCons (eVar 2) aNil)))
    (sSeq (sSet 3 (eCall F_map_of (aCons (eVar 0) (aCons (eVar 1) (aCons (eVar 2) aNil)))))
    (sRet (eTup (aCons (eCall lenD (aCons (e2 ixD (eVar 3) (eC (.int 0))) aNil)) (aCons (eCall lenD (aCons (eVar 3) aNil)) aNil)))))))
noncomputable def F_size : List D → Sto → Res D := fnS 3 4 b_size
noncomputable def b_law_cell_at : MS :=
  (sSeq (sIf (tVal (e2 ltD (eVar 1) (eCall lenD (aCons (eVar 0) aNil))))
    (sRet (e2 ixD (eVar 0) (eVar 1)))
    sNil)
    (sSeq (sIf (tVal (e2 (eqD false) (eVar 0) (eLst aNil)))
    (sRet (eC (.int 0)))
    sNil)
    (sRet (e2 addD (e2 mulD (e2 ixD (eVar 0) (e2 modD (eVar 1) (eCall lenD (aCons (eVar 0) aNil)))) (eC (.int 31))) (eVar 1)))))
noncomputable def F_law_cell_at : List D → Sto → Res D := fnS 2 2 b_law_cell_at
noncomputable def b_law_mixed : MS :=
  (sSeq (sSet 3 (e2 modD (e2 mulD (e2 addD (e2 addD (eCall F_law_cell_at (aCons (eVar 0) (aCons (eVar 1) aNil))) (e2 mulD (eC (.int 7919)) (eVar 1))) (eC (.int 1))) (eC (.int 48271))) (eC (.int 2147483647))))
    (sRet (e2 modD (e2 modD (e2 addD (e2 addD (e2 mulD (eVar 3) (eVar 3)) (e2 mulD (eC (.int 7)) (eVar 3))) (eVar 1)) (eC (.int 2147483629))) (eVar 2))))
noncomputable def F_law_mixed : List D → Sto → Res D := fnS 3 4 b_law_mixed
noncomputable def b_law_draw : MS :=
  (sSeq (sExpr (eMethL appendD (eVar 1) (aCons (eC (.int 0)) aNil)))
    (sRet (eCall F_law_mixed (aCons (eVar 0) (aCons (eCall lenD (aCons (eVar 1) aNil)) (aCons (eVar 2) aNil))))))
noncomputable def F_law_draw : List D → Sto → Res D := fnS 3 3 b_law_draw
noncomputable def b_law_pick : MS :=
  (sRet (e2 ixD (eVar 2) (eCall F_law_draw (aCons (eVar 0) (aCons (eVar 1) (aCons (eCall lenD (aCons (eVar 2) aNil)) aNil))))))
noncomputable def F_law_pick : List D → Sto → Res D := fnS 3 3 b_law_pick
noncomputable def b_law_picture : MS :=
  (sSeq (sSet 3 (e2 addD (eC (.int 1)) (eCall F_law_draw (aCons (eVar 0) (aCons (eVar 1) (aCons (eVar 2) aNil))))))
    (sSeq (sSet 4 (eCall F_law_pick (aCons (eVar 0) (aCons (eVar 1) (aCons (eLst (aCons (eVar 3) (aCons (e2 addD (eC (.int 1)) (eCall F_law_draw (aCons (eVar 0) (aCons (eVar 1) (aCons (eVar 2) aNil))))) aNil))) aNil)))))
    (sSeq (sSet 5 (eCall F_law_pick (aCons (eVar 0) (aCons (eVar 1) (aCons (eLst (aCons (eC (.int 2)) (aCons (eC (.int 3)) (aCons (eC (.int 10)) aNil)))) aNil)))))
    (sRet (eCall tupleD (aCons (eComp [6] (iRng1' (aCons (eVar 4) aNil)) (gN 6) tTrue (eCall tupleD (aCons (eComp [7] (iRng1' (aCons (eVar 3) aNil)) (gN 7) tTrue (eCall F_law_draw (aCons (eVar 0) (aCons (eVar 1) (aCons (eVar 5) aNil))))) aNil))) aNil))))))
noncomputable def F_law_picture : List D → Sto → Res D := fnS 3 8 b_law_picture
noncomputable def b_law_deed : MS :=
  (sSeq (sSet 4 (eCall F_law_draw (aCons (eVar 0) (aCons (eVar 1) (aCons (eC (.int 9)) aNil)))))
    (sSeq (sIf (tVal (e2 ltD (eVar 4) (eC (.int 2))))
    (sRet (eTup (aCons (eC (.str "turn")) aNil)))
    sNil)
    (sSeq (sIf (tVal (e2 ltD (eVar 4) (eC (.int 4))))
    (sRet (eTup (aCons (eC (.str "mirror")) aNil)))
    sNil)
    (sSeq (sIf (tVal (e2 (eqD false) (eVar 4) (eC (.int 4))))
    (sRet (eTup (aCons (eC (.str "invert")) aNil)))
    sNil)
    (sSeq (sIf (tVal (e2 (eqD false) (eVar 4) (eC (.int 5))))
    (sRet (eTup (aCons (eC (.str "light")) (aCons (e2 subD (eCall F_law_draw (aCons (eVar 0) (aCons (eVar 1) (aCons (eC (.int 19)) aNil)))) (eC (.int 9))) aNil))))
    sNil)
    (sSeq (sIf (tAndM (tVal (e2 (eqD false) (eVar 4) (eC (.int 6)))) (tVal (e2 gtD (eCall maxD (aCons (eVar 2) (aCons (eVar 3) aNil))) (eC (.int 2)))))
    (sRet (eTup (aCons (eC (.str "halve")) aNil)))
    sNil)
    (sSeq (sSet 5 (eCall F_law_draw (aCons (eVar 0) (aCons (eVar 1) (aCons (eCall maxD (aCons (eC (.int 1)) (aCons (e2 subD (eVar 2) (eC (.int 1))) aNil))) aNil)))))
    (sSeq (sSet 6 (eCall F_law_draw (aCons (eVar 0) (aCons (eVar 1) (aCons (eCall maxD (aCons (eC (.int 1)) (aCons (e2 subD (eVar 3) (eC (.int 1))) aNil))) aNil)))))
    (sSeq (sSet 7 (e2 subD (e2 subD (eVar 2) (eVar 5)) (e2 mulD (eCall F_law_draw (aCons (eVar 0) (aCons (eVar 1) (aCons (eC (.int 2)) aNil)))) (eCall intD (aCons (e2 gtD (e2 subD (eVar 2) (eVar 5)) (eC (.int 1))) aNil)))))
    (sSeq (sSet 8 (e2 subD (e2 subD (eVar 3) (eVar 6)) (e2 mulD (eCall F_law_draw (aCons (eVar 0) (aCons (eVar 1) (aCons (eC (.int 2)) aNil)))) (eCall intD (aCons (e2 gtD (e2 subD (eVar 3) (eVar 6)) (eC (.int 1))) aNil)))))
    (sRet (eTup (aCons (eC (.str "cut")) (aCons (eVar 5) (aCons (eVar 6) (aCons (eVar 7) (aCons (eVar 8) aNil)))))))))))))))))
noncomputable def F_law_deed : List D → Sto → Res D := fnS 4 9 b_law_deed
noncomputable def b_law_behind_size : MS :=
  (sSeq (sIf (tVal (e2 (eqD false) (e2 ixD (eVar 2) (eC (.int 0))) (eC (.str "turn"))))
    (sRet (eTup (aCons (eVar 1) (aCons (eVar 0) aNil))))
    sNil)
    (sSeq (sIf (tVal (e2 (eqD false) (e2 ixD (eVar 2) (eC (.int 0))) (eC (.str "halve"))))
    (sRet (eTup (aCons (e2 fdivD (e2 addD (eVar 0) (eC (.int 1))) (eC (.int 2))) (aCons (e2 fdivD (e2 addD (eVar 1) (eC (.int 1))) (eC (.int 2))) aNil))))
    sNil)
    (sSeq (sIf (tVal (e2 (eqD false) (e2 ixD (eVar 2) (eC (.int 0))) (eC (.str "cut"))))
    (sRet (eTup (aCons (e2 ixD (eVar 2) (eC (.int 3))) (aCons (e2 ixD (eVar 2) (eC (.int 4))) aNil))))
    sNil)
    (sRet (eTup (aCons (eVar 0) (aCons (eVar 1) aNil)))))))
noncomputable def F_law_behind_size : List D → Sto → Res D := fnS 3 3 b_law_behind_size
noncomputable def b_law_deeds : MS :=
  (sSeq (sSet 5 (eNewL aNil))
    (sSeq (sFor (iRng1' (aCons (eCall F_law_draw (aCons (eVar 0) (aCons (eVar 1) (aCons (e2 addD (eVar 4) (eC (.int 1))) aNil)))) aNil)) (gN 6)
    (sSeq (sSet 7 (eCall F_law_deed (aCons (eVar 0) (aCons (eVar 1) (aCons (eVar 2) (aCons (eVar 3) aNil))))))
    (sSeq (sAsg (gT 2 (gsC (gN 2) (gsC (gN 3) gs0))) (eCall F_law_behind_size (aCons (eVar 2) (aCons (eVar 3) (aCons (eVar 7) aNil)))))
    (sExpr (eMethL appendD (eVar 5) (aCons (eVar 7) aNil))))))
    (sRet (eCall tupleD (aCons (eVar 5) aNil)))))
noncomputable def F_law_deeds : List D → Sto → Res D := fnD 5 8 b_law_deeds
noncomputable def b_law_turned : MS :=
  (sRet (eCall tupleD (aCons (eComp [1] (iRng1' (aCons (eCall lenD (aCons (e2 ixD (eVar 0) (eC (.int 0))) aNil)) aNil)) (gN 1) tTrue (eCall tupleD (aCons (eComp [2] (iRng1' (aCons (eCall lenD (aCons (eVar 0) aNil)) aNil)) (gN 2) tTrue (e2 ixD (e2 ixD (eVar 0) (e2 subD (e2 subD (eCall lenD (aCons (eVar 0) aNil)) (eC (.int 1))) (eVar 2))) (eVar 1))) aNil))) aNil)))
noncomputable def F_law_turned : List D → Sto → Res D := fnS 1 3 b_law_turned
noncomputable def b_law_mirrored : MS :=
  (sRet (eCall tupleD (aCons (eComp [1] (iSeq (eVar 0)) (gN 1) tTrue (eCall tupleD (aCons (eComp [2] (iRng1' (aCons (eCall lenD (aCons (eVar 1) aNil)) aNil)) (gN 2) tTrue (e2 ixD (eVar 1) (e2 subD (e2 subD (eCall lenD (aCons (eVar 1) aNil)) (eC (.int 1))) (eVar 2)))) aNil))) aNil)))
noncomputable def F_law_mirrored : List D → Sto → Res D := fnS 1 3 b_law_mirrored
noncomputable def b_law_worth : MS :=
  (sSeq (sIf (tVal (e2 (eqD false) (e2 ixD (eVar 1) (eC (.int 0))) (eC (.str "invert"))))
    (sRet (e2 subD (eC (.int 9)) (eVar 0)))
    sNil)
    (sSeq (sIf (tVal (e2 (eqD false) (e2 ixD (eVar 1) (eC (.int 0))) (eC (.str "light"))))
    (sRet (eCall minD (aCons (eC (.int 9)) (aCons (eCall maxD (aCons (eC (.int 0)) (aCons (e2 addD (eVar 0) (e2 ixD (eVar 1) (eC (.int 1)))) aNil))) aNil))))
    sNil)
    (sRet (eVar 0))))
noncomputable def F_law_worth : List D → Sto → Res D := fnS 2 2 b_law_worth
noncomputable def b_law_one : MS :=
  (sSeq (sIf (tVal (e2 (eqD false) (e2 ixD (eVar 1) (eC (.int 0))) (eC (.str "turn"))))
    (sRet (eCall F_law_turned (aCons (eVar 0) aNil)))
    sNil)
    (sSeq (sIf (tVal (e2 (eqD false) (e2 ixD (eVar 1) (eC (.int 0))) (eC (.str "mirror"))))
    (sRet (eCall F_law_mirrored (aCons (eVar 0) aNil)))
    sNil)
    (sSeq (sIf (tVal (e2 (eqD false) (e2 ixD (eVar 1) (eC (.int 0))) (eC (.str "halve"))))
    (sSeq (sSet 2 (e2 fdivD (e2 addD (eCall lenD (aCons (eVar 0) aNil)) (eC (.int 1))) (eC (.int 2))))
    (sSeq (sSet 3 (e2 fdivD (e2 addD (eCall lenD (aCons (e2 ixD (eVar 0) (eC (.int 0))) aNil)) (eC (.int 1))) (eC (.int 2))))
    (sRet (eCall tupleD (aCons (eComp [7] (iRng1' (aCons (eVar 2) aNil)) (gN 7) tTrue (eCall tupleD (aCons (eComp [9] (iRng1' (aCons (eVar 3) aNil)) (gN 9) tTrue (e2 ixD (e2 ixD (eVar 0) (e2 mulD (eC (.int 2)) (eVar 7))) (e2 mulD (eC (.int 2)) (eVar 9)))) aNil))) aNil)))))
    sNil)
    (sSeq (sIf (tVal (e2 (eqD false) (e2 ixD (eVar 1) (eC (.int 0))) (eC (.str "cut"))))
    (sSeq (sAsg (gT 4 (gsC (gN 4) (gsC (gN 5) (gsC (gN 3) (gsC (gN 2) gs0))))) (eSlc (eVar 1) (oSome (eC (.int 1))) oNone))
    (sSeq (sIf (tOrM (tVal (e2 gtD (e2 addD (eVar 4) (eVar 3)) (eCall lenD (aCons (e2 ixD (eVar 0) (eC (.int 0))) aNil)))) (tVal (e2 gtD (e2 addD (eVar 5) (eVar 2)) (eCall lenD (aCons (eVar 0) aNil)))))
    (sRet (eC .non))
    sNil)
    (sRet (eCall tupleD (aCons (eComp [7] (iRng1' (aCons (eVar 2) aNil)) (gN 7) tTrue (eCall tupleD (aCons (eComp [9] (iRng1' (aCons (eVar 3) aNil)) (gN 9) tTrue (e2 ixD (e2 ixD (eVar 0) (e2 addD (eVar 5) (eVar 7))) (e2 addD (eVar 4) (eVar 9)))) aNil))) aNil)))))
    sNil)
    (sRet (eCall tupleD (aCons (eComp [6] (iSeq (eVar 0)) (gN 6) tTrue (eCall tupleD (aCons (eComp [8] (iSeq (eVar 6)) (gN 8) tTrue (eCall F_law_worth (aCons (eVar 8) (aCons (eVar 1) aNil)))) aNil))) aNil)))))))
noncomputable def F_law_one : List D → Sto → Res D := fnS 2 10 b_law_one
noncomputable def b_law_done : MS :=
  (sSeq (sFor (iSeq (eVar 1)) (gN 2)
    (sIf (tVal (e2 (isnD true) (eVar 0) (eC .non)))
    (sSet 0 (eCall F_law_one (aCons (eVar 0) (aCons (eVar 2) aNil))))
    sNil))
    (sRet (eVar 0)))
noncomputable def F_law_done : List D → Sto → Res D := fnS 2 3 b_law_done
noncomputable def b_law_map : MS :=
  (sSeq (sSet 3 (eCall tupleD (aCons (eComp [4] (iRng1' (aCons (eVar 1) aNil)) (gN 4) tTrue (eCall tupleD (aCons (eComp [6] (iRng1' (aCons (eVar 0) aNil)) (gN 6) tTrue (e2 addD (e2 mulD (eC (.int 100)) (eVar 4)) (eVar 6))) aNil))) aNil)))
    (sRet (eCall F_law_done (aCons (eVar 3) (aCons (eComp [5] (iSeq (eVar 2)) (gN 5) (tVal (e2 (inD true) (e2 ixD (eVar 5) (eC (.int 0))) (eTup (aCons (eC (.str "light")) (aCons (eC (.str "invert")) aNil))))) (eVar 5)) aNil)))))
noncomputable def F_law_map : List D → Sto → Res D := fnS 3 7 b_law_map
end Py
set_option maxRecDepth 100000
set_option maxHeartbeats 4000000
namespace Py
open PySem PySem.Spec PyProof.Rows L2
noncomputable def b_table_of : MS :=
  (sSeq (sSet 1 (eTupR (r1 (e2 addD (eC (.int 9)) (eC (.int 1))))))
    (sSeq (sFor (iSeq (eVar 0)) (gN 2)
    (sSet 1 (eCall F_lit (aCons (eVar 1) (aCons (eVar 2) aNil)))))
    (sRet (eVar 1))))
noncomputable def F_table_of : List D → Sto → Res D := fnS 1 3 b_table_of
noncomputable def b_same : MS :=
  (sSeq (sExpr (eCall F_need_size (aCons (eVar 0) (aCons (eVar 1) aNil))))
    (sSeq (sExpr (eCall F_need_deeds (aCons (eVar 2) aNil)))
    (sSeq (sExpr (eCall F_need_deeds (aCons (eVar 3) aNil)))
    (sSeq (sIf (tVal (e2 (eqD true) (eCall F_map_of (aCons (eVar 0) (aCons (eVar 1) (aCons (eVar 2) aNil)))) (eCall F_map_of (aCons (eVar 0) (aCons (eVar 1) (aCons (eVar 3) aNil))))))
    (sRet (eC (.bl false)))
    sNil)
    (sRet (e2 (eqD false) (eCall F_table_of (aCons (eVar 2) aNil)) (eCall F_table_of (aCons (eVar 3) aNil))))))))
noncomputable def F_same : List D → Sto → Res D := fnS 4 4 b_same
noncomputable def b_law_table : MS :=
  (sSeq (sSet 1 (eNewL aNil))
    (sSeq (sFor (iRng1' (aCons (eC (.int 10)) aNil)) (gN 2)
    (sSeq (sFor (iSeq (eVar 0)) (gN 3)
    (sSet 2 (eCall F_law_worth (aCons (eVar 2) (aCons (eVar 3) aNil)))))
    (sExpr (eMethL appendD (eVar 1) (aCons (eVar 2) aNil)))))
    (sRet (eVar 1))))
noncomputable def F_law_table : List D → Sto → Res D := fnD 1 4 b_law_table
end Py
set_option maxRecDepth 100000
set_option maxHeartbeats 4000000
namespace Py
open PySem PySem.Spec PyProof.Rows L2
noncomputable def b_turned : MS :=
  (sSeq (sExpr (eCall F_need_picture (aCons (eVar 0) aNil)))
    (sRet (eCall F_turned_rows (aCons (eVar 0) aNil))))
noncomputable def F_turned : List D → Sto → Res D := fnS 1 1 b_turned
noncomputable def b_mirrored : MS :=
  (sSeq (sExpr (eCall F_need_picture (aCons (eVar 0) aNil)))
    (sRet (eCall F_mirrored_rows (aCons (eVar 0) aNil))))
noncomputable def F_mirrored : List D → Sto → Res D := fnS 1 1 b_mirrored
noncomputable def b_kin_of : MS :=
  (sSeq (sSet 1 (eNewL aNil))
    (sSeq (sFor (iSeq (eTup (aCons (eVar 0) (aCons (eCall F_mirrored_rows (aCons (eVar 0) aNil)) aNil)))) (gN 2)
    (sFor (iRng1' (aCons (eC (.int 4)) aNil)) (gN 3)
    (sSeq (sExpr (eMethL appendD (eVar 1) (aCons (eVar 2) aNil)))
    (sSet 2 (eCall F_turned_rows (aCons (eVar 2) aNil))))))
    (sRet (eVar 1))))
noncomputable def F_kin_of : List D → Sto → Res D := fnD 1 4 b_kin_of
noncomputable def b_least_kin : MS :=
  (sSeq (sExpr (eCall F_need_picture (aCons (eVar 0) aNil)))
    (sRet (eCall minTD (aCons (eCall F_kin_of (aCons (eVar 0) aNil)) aNil))))
noncomputable def F_least_kin : List D → Sto → Res D := fnS 1 1 b_least_kin
noncomputable def b_are_kin : MS :=
  (sSeq (sExpr (eCall F_need_picture (aCons (eVar 0) aNil)))
    (sSeq (sExpr (eCall F_need_picture (aCons (eVar 1) aNil)))
    (sRet (e2 (eqD false) (eCall minTD (aCons (eCall F_kin_of (aCons (eVar 0) aNil)) aNil)) (eCall minTD (aCons (eCall F_kin_of (aCons (eVar 1) aNil)) aNil))))))
noncomputable def F_are_kin : List D → Sto → Res D := fnS 2 2 b_are_kin
noncomputable def b_law_kin : MS :=
  (sSeq (sSet 1 (eNewL aNil))
    (sSeq (sFor (iSeq (eTup (aCons (eVar 0) (aCons (eCall F_law_mirrored (aCons (eVar 0) aNil)) aNil)))) (gN 2)
    (sFor (iRng1' (aCons (eC (.int 4)) aNil)) (gN 3)
    (sSeq (sExpr (eMethL appendD (eVar 1) (aCons (eVar 2) aNil)))
    (sSet 2 (eCall F_law_turned (aCons (eVar 2) aNil))))))
    (sRet (eVar 1))))
noncomputable def F_law_kin : List D → Sto → Res D := fnD 1 4 b_law_kin
end Py
set_option maxRecDepth 100000
set_option maxHeartbeats 4000000
namespace Py
open PySem PySem.Spec PyProof.Rows L2
noncomputable def b_is_word : MS :=
  (sRet (eAnd (eCall isiD (aCons (eVar 0) (aCons (eC (.ty "str")) aNil))) (eAnd (eChain leD leD (eC (.int 1)) (eCall lenD (aCons (eVar 0) aNil)) (eC (.int 6))) (e2 (eqD false) (eM1 stripD (eVar 0) (eC (.str "abcdefghijklmnopqrstuvwxyz"))) (eC (.str ""))))))
noncomputable def F_is_word : List D → Sto → Res D := fnS 1 1 b_is_word
noncomputable def b_is_place : MS :=
  (sSeq (sIf (tOrM (tNotM (tVal (eCall isiD (aCons (eVar 0) (aCons (eC (.ty "str")) aNil))))) (tVal (e2 gtD (eCall lenD (aCons (eVar 0) aNil)) (eC (.int 20)))))
    (sRet (eC (.bl false)))
    sNil)
    (sRet (eCall allD (aCons (eComp [1] (iSeq (eM1 splitD (eVar 0) (eC (.str "/")))) (gN 1) tTrue (eCall F_is_word (aCons (eVar 1) aNil))) aNil))))
noncomputable def F_is_place : List D → Sto → Res D := fnS 1 2 b_is_place
noncomputable def b_are_files : MS :=
  (sSeq (sIf (tOrM (tNotM (tVal (eCall isiD (aCons (eVar 0) (aCons (eC (.ty "tuple")) aNil))))) (tVal (e2 gtD (eCall lenD (aCons (eVar 0) aNil)) (eC (.int 60)))))
    (sRet (eC (.bl false)))
    sNil)
    (sSeq (sSet 1 (eC (.str "")))
    (sSeq (sFor (iSeq (eVar 0)) (gN 2)
    (sSeq (sIf (tOrM (tNotM (tVal (eCall isiD (aCons (eVar 2) (aCons (eC (.ty "tuple")) aNil))))) (tOrM (tVal (e2 (eqD true) (eCall lenD (aCons (eVar 2) aNil)) (eC (.int 2)))) (tOrM (tNotM (tVal (eCall F_is_place (aCons (e2 ixD (eVar 2) (eC (.int 0))) aNil)))) (tNotM (tVal (eCall F_is_picture (aCons (e2 ixD (eVar 2) (eC (.int 1))) aNil)))))))
    (sRet (eC (.bl false)))
    sNil)
    (sSeq (sIf (tVal (e2 leD (e2 ixD (eVar 2) (eC (.int 0))) (eVar 1)))
    (sRet (eC (.bl false)))
    sNil)
    (sSet 1 (e2 ixD (eVar 2) (eC (.int 0)))))))
    (sRet (eC (.bl true))))))
noncomputable def F_are_files : List D → Sto → Res D := fnS 1 3 b_are_files
noncomputable def b_Hall_init : MS :=
  (sSeq (sFldS "rows" (eNewL aNil) (eVar 0))
    (sSeq (sFldS "by" eNewP (eVar 0))
    (sFldS "past" (eNewL aNil) (eVar 0))))
noncomputable def F_Hall_init : List D → Sto → Res D := fnS 1 1 b_Hall_init
noncomputable def b_Hall_need : MS :=
  (sSeq (sIf (tNotM (tVal (eCall F_is_whole (aCons (eVar 1) (aCons (eC (.int 0)) (aCons (e2 subD (eCall lenD (aCons (e1 (fldD "rows") (eVar 0)) aNil)) (eC (.int 1))) aNil))))))
    (sRaise "NoNumber")
    sNil)
    (sRet (e2 ixD (e1 (fldD "rows") (eVar 0)) (eVar 1))))
noncomputable def F_Hall_need : List D → Sto → Res D := fnS 2 2 b_Hall_need
noncomputable def b_Hall_told_of : MS :=
  (sSeq (sSet 2 (eComp [8] (iSeq (e1 (fldD "rows") (eVar 0))) (gN 8) tTrue (e2 dgetS (eVar 8) (eC (.str "places")))))
    (sSeq (sSet 3 (eLstR (r1 (eCall lenD (aCons (eVar 1) aNil)))))
    (sSeq (sSet 4 (eLstR (r2 (eCall lenD (aCons (eVar 1) aNil)) (eCall lenD (aCons (eVar 2) aNil)))))
    (sSeq (sSet 5 (eComp [9] (iSeq (eVar 3)) (gN 9) (tAndM (tVal (e2 (eqD true) (e2 ixD (eVar 1) (eVar 9)) (eLst aNil))) (tAndM (tVal (e2 (eqD true) (e2 ixD (eVar 2) (eVar 9)) (eLst aNil))) (tVal (e2 (eqD true) (e2 ixD (eVar 1) (eVar 9)) (e2 ixD (eVar 2) (eVar 9)))))) (eVar 9)))
    (sSeq (sSet 6 (eComp [9] (iSeq (eVar 3)) (gN 9) (tAndM (tVal (e2 (eqD true) (e2 ixD (eVar 1) (eVar 9)) (eLst aNil))) (tVal (e2 (eqD false) (e2 ixD (eVar 2) (eVar 9)) (eLst aNil)))) (eVar 9)))
    (sSeq (sSet 7 (eComp [9] (iSeq (eVar 3)) (gN 9) (tAndM (tVal (e2 (eqD false) (e2 ixD (eVar 1) (eVar 9)) (eLst aNil))) (tVal (e2 (eqD true) (e2 ixD (eVar 2) (eVar 9)) (eLst aNil)))) (eVar 9)))
    (sRet (eTup (aCons (eVar 4) (aCons (eVar 5) (aCons (eVar 6) (aCons (eVar 7) aNil))))))))))))
noncomputable def F_Hall_told_of : List D → Sto → Res D := fnS 2 10 b_Hall_told_of
noncomputable def b_Hall_take_in : MS :=
  (sSeq (sIf (tNotM (tVal (eCall F_is_whole (aCons (eVar 1) (aCons (eC (.int 0)) (aCons (eC (.int 999)) aNil))))))
    (sRaise "NoFiles")
    sNil)
    (sSeq (sIf (tNotM (tVal (eCall F_are_files (aCons (eVar 2) aNil))))
    (sRaise "NoFiles")
    sNil)
    (sSeq (sSet 3 (eComp [6, 7] (iSeq (eVar 2)) (gT 2 (gsC (gN 6) (gsC (gN 7) gs0))) (tVal (e2 (inPd true) (eVar 7) (e1 (fldD "by") (eVar 0)))) (eVar 7)))
    (sSeq (sIf (tVal (e2 gtD (e2 addD (eCall lenD (aCons (e1 (fldD "rows") (eVar 0)) aNil)) (eCall lenPd (aCons (eCall dictD (aCons (eComp [7] (iSeq (eVar 3)) (gN 7) tTrue (eTup (aCons (eVar 7) (aCons (eC (.bl true)) aNil)))) aNil)) aNil))) (eC (.int 60))))
    (sRaise "Full")
    sNil)
    (sSeq (sSet 4 (eComp [5] (iSeq (e1 (fldD "rows") (eVar 0))) (gN 5) tTrue (eCall listD (aCons (e2 dgetS (eVar 5) (eC (.str "places"))) aNil))))
    (sSeq (sFor (iSeq (e1 (fldD "rows") (eVar 0))) (gN 5)
    (sDputS (eNewL aNil) (eVar 5) (eC (.str "places"))))
    (sSeq (sFor (iSeq (eVar 2)) (gT 2 (gsC (gN 6) (gsC (gN 7) gs0)))
    (sSeq (sIf (tVal (e2 (inPd true) (eVar 7) (e1 (fldD "by") (eVar 0))))
    (sSeq (sDputP (eCall lenD (aCons (e1 (fldD "rows") (eVar 0)) aNil)) (e1 (fldD "by") (eVar 0)) (eVar 7))
    (sSeq (sSet 5 (eDictS [.inr "first", .inr "places", .inr "deeds", .inr "marks", .inr "stars", .inr "moment"] (aCons (eVar 7) (aCons (eNewL aNil) (aCons (eTup aNil) (aCons (eNewL aNil) (aCons (eC (.int 0)) (aCons (eVar 1) aNil))))))))
    (sExpr (eMethL appendD (e1 (fldD "rows") (eVar 0)) (aCons (eVar 5) aNil)))))
    sNil)
    (sExpr (eMethL appendD (e2 dgetS (e2 ixD (e1 (fldD "rows") (eVar 0)) (e2 dgetP (e1 (fldD "by") (eVar 0)) (eVar 7))) (eC (.str "places"))) (aCons (eVar 6) aNil)))))
    (sRet (eMeth "told_of" F_Hall_told_of (eVar 0) (aCons (eVar 4) aNil))))))))))
noncomputable def F_Hall_take_in : List D → Sto → Res D := fnS 3 8 b_Hall_take_in
noncomputable def b_Hall_numbers : MS :=
  (sRet (eCall lenD (aCons (e1 (fldD "rows") (eVar 0)) aNil)))
noncomputable def F_Hall_numbers : List D → Sto → Res D := fnS 1 1 b_Hall_numbers
noncomputable def b_Hall_number_of : MS :=
  (sSeq (sIf (tNotM (tVal (eCall F_is_picture (aCons (eVar 1) aNil))))
    (sRaise "NoPicture")
    sNil)
    (sSeq (sIf (tVal (e2 (inPd true) (eVar 1) (e1 (fldD "by") (eVar 0))))
    (sRaise "NoNumber")
    sNil)
    (sRet (e2 dgetP (e1 (fldD "by") (eVar 0)) (eVar 1)))))
noncomputable def F_Hall_number_of : List D → Sto → Res D := fnS 2 2 b_Hall_number_of
noncomputable def b_Hall_first : MS :=
  (sRet (e2 dgetS (eMeth "need" F_Hall_need (eVar 0) (aCons (eVar 1) aNil)) (eC (.str "first"))))
noncomputable def F_Hall_first : List D → Sto → Res D := fnS 2 2 b_Hall_first
noncomputable def b_Hall_places : MS :=
  (sRet (eCall listD (aCons (e2 dgetS (eMeth "need" F_Hall_need (eVar 0) (aCons (eVar 1) aNil)) (eC (.str "places"))) aNil)))
noncomputable def F_Hall_places : List D → Sto → Res D := fnS 2 2 b_Hall_places
noncomputable def b_Hall_places_N : MS :=
  (sRet (eCall listN (aCons (e2 dgetS (eMeth "need" F_Hall_need (eVar 0) (aCons (eVar 1) aNil)) (eC (.str "places"))) aNil)))
noncomputable def F_Hall_places_N : List D → Sto → Res D := fnS 2 2 b_Hall_places_N
noncomputable def b_Hall_deeds : MS :=
  (sRet (e2 dgetS (eMeth "need" F_Hall_need (eVar 0) (aCons (eVar 1) aNil)) (eC (.str "deeds"))))
noncomputable def F_Hall_deeds : List D → Sto → Res D := fnS 2 2 b_Hall_deeds
noncomputable def b_Hall_shown : MS :=
  (sSeq (sSet 2 (eMeth "need" F_Hall_need (eVar 0) (aCons (eVar 1) aNil)))
    (sRet (eCall F_behind (aCons (e2 dgetS (eVar 2) (eC (.str "first"))) (aCons (e2 dgetS (eVar 2) (eC (.str "deeds"))) aNil)))))
noncomputable def F_Hall_shown : List D → Sto → Res D := fnS 2 3 b_Hall_shown
noncomputable def b_Hall_become : MS :=
  (sSeq (sSet 3 (e2 ixD (e1 (fldD "rows") (eVar 0)) (eVar 1)))
    (sSeq (sExpr (eCall F_behind (aCons (e2 dgetS (eVar 3) (eC (.str "first"))) (aCons (eVar 2) aNil))))
    (sIf (tVal (e2 (eqD true) (eVar 2) (e2 dgetS (eVar 3) (eC (.str "deeds")))))
    (sSeq (sExpr (eMethL appendD (e1 (fldD "past") (eVar 0)) (aCons (eTup (aCons (eVar 1) (aCons (e2 dgetS (eVar 3) (eC (.str "deeds"))) aNil))) aNil)))
    (sDputS (eVar 2) (eVar 3) (eC (.str "deeds"))))
    sNil)))
noncomputable def F_Hall_become : List D → Sto → Res D := fnS 3 4 b_Hall_become
noncomputable def b_Hall_change : MS :=
  (sSeq (sSet 3 (eMeth "need" F_Hall_need (eVar 0) (aCons (eVar 1) aNil)))
    (sSeq (sIf (tOrM (tNotM (tVal (eCall F_are_deeds (aCons (eTup (aCons (eVar 2) aNil)) aNil)))) (tVal (e2 (eqD false) (eCall lenD (aCons (e2 dgetS (eVar 3) (eC (.str "deeds"))) aNil)) (eC (.int 20)))))
    (sRaise "NoDeeds")
    sNil)
    (sExpr (eMeth "become" F_Hall_become (eVar 0) (aCons (eVar 1) (aCons (e2 addD (e2 dgetS (eVar 3) (eC (.str "deeds"))) (eTup (aCons (eVar 2) aNil))) aNil))))))
noncomputable def F_Hall_change : List D → Sto → Res D := fnS 3 4 b_Hall_change
noncomputable def b_law_places : MS :=
  (sSeq (sSet 3 (eNewL aNil))
    (sSeq (sFor (iRng1' (aCons (eVar 2) aNil)) (gN 4)
    (sSeq (sSet 5 (e2 addD (e2 addD (eCall F_law_pick (aCons (eVar 0) (aCons (eVar 1) (aCons (eLst (aCons (eC (.str "a")) (aCons (eC (.str "ab")) (aCons (eC (.str "a/b")) (aCons (eC (.str "a/bc")) (aCons (eC (.str "c")) aNil)))))) aNil)))) (eC (.str "/"))) (e2 sxD (eC (.str "pqrstuvw")) (eCall F_law_draw (aCons (eVar 0) (aCons (eVar 1) (aCons (eC (.int 8)) aNil)))))))
    (sIf (tVal (e2 (inD true) (eVar 5) (eVar 3)))
    (sExpr (eMethL appendD (eVar 3) (aCons (eVar 5) aNil)))
    sNil)))
    (sRet (eCall sortedD (aCons (eVar 3) aNil)))))
noncomputable def F_law_places : List D → Sto → Res D := fnD 3 6 b_law_places
noncomputable def b_law_files : MS :=
  (sSeq (sSet 4 (eNewL aNil))
    (sSeq (sFor (iSeq (eCall F_law_places (aCons (eVar 0) (aCons (eVar 1) (aCons (eCall F_law_draw (aCons (eVar 0) (aCons (eVar 1) (aCons (e2 addD (eVar 3) (eC (.int 1))) aNil)))) aNil))))) (gN 5)
    (sExpr (eMethL appendD (eVar 4) (aCons (eTup (aCons (eVar 5) (aCons (eCall F_law_pick (aCons (eVar 0) (aCons (eVar 1) (aCons (eVar 2) aNil)))) aNil))) aNil))))
    (sRet (eCall tupleD (aCons (eVar 4) aNil)))))
noncomputable def F_law_files : List D → Sto → Res D := fnD 4 6 b_law_files
noncomputable def b_law_pictures : MS :=
  (sSeq (sSet 3 (eNewL aNil))
    (sSeq (sFor (iRng1' (aCons (eVar 2) aNil)) (gN 4)
    (sSeq (sSet 5 (eCall F_law_picture (aCons (eVar 0) (aCons (eVar 1) (aCons (eC (.int 4)) aNil)))))
    (sIf (tVal (e2 (inD true) (eVar 5) (eVar 3)))
    (sExpr (eMethL appendD (eVar 3) (aCons (eVar 5) aNil)))
    sNil)))
    (sRet (eVar 3))))
noncomputable def F_law_pictures : List D → Sto → Res D := fnD 3 6 b_law_pictures
end Py
set_option maxRecDepth 100000
set_option maxHeartbeats 4000000
namespace Py
open PySem PySem.Spec PyProof.Rows L2
noncomputable def b_is_within : MS :=
  (sRet (eOr (e2 (eqD false) (eVar 0) (eVar 1)) (eM1 startsD (eVar 0) (e2 addD (eVar 1) (eC (.str "/"))))))
noncomputable def F_is_within : List D → Sto → Res D := fnS 2 2 b_is_within
noncomputable def b_holds (FR : List D → Sto → Res D) : MS :=
  (sSeq (sIf (tVal (e2 (eqD false) (e2 ixD (eVar 0) (eC (.int 0))) (eC (.str "all"))))
    (sRet (eCall allD (aCons (eComp [2] (iSeq (e2 ixD (eVar 0) (eC (.int 1)))) (gN 2) tTrue (eCall FR (aCons (eVar 2) (aCons (eVar 1) aNil)))) aNil)))
    sNil)
    (sSeq (sIf (tVal (e2 (eqD false) (e2 ixD (eVar 0) (eC (.int 0))) (eC (.str "any"))))
    (sRet (eCall anyD (aCons (eComp [2] (iSeq (e2 ixD (eVar 0) (eC (.int 1)))) (gN 2) tTrue (eCall FR (aCons (eVar 2) (aCons (eVar 1) aNil)))) aNil)))
    sNil)
    (sSeq (sIf (tVal (e2 (eqD false) (e2 ixD (eVar 0) (eC (.int 0))) (eC (.str "not"))))
    (sRet (eNot (eCall FR (aCons (e2 ixD (eVar 0) (eC (.int 1))) (aCons (eVar 1) aNil)))))
    sNil)
    (sSeq (sIf (tVal (e2 (eqD false) (e2 ixD (eVar 0) (eC (.int 0))) (eC (.str "mark"))))
    (sRet (e2 (inD false) (e2 ixD (eVar 0) (eC (.int 1))) (e2 dgetS (eVar 1) (eC (.str "marks")))))
    sNil)
    (sSeq (sIf (tVal (e2 (eqD false) (e2 ixD (eVar 0) (eC (.int 0))) (eC (.str "stars"))))
    (sRet (e2 geD (e2 dgetS (eVar 1) (eC (.str "stars"))) (e2 ixD (eVar 0) (eC (.int 1)))))
    sNil)
    (sSeq (sIf (tVal (e2 (eqD false) (e2 ixD (eVar 0) (eC (.int 0))) (eC (.str "from"))))
    (sRet (eChain leD leD (e2 ixD (eVar 0) (eC (.int 1))) (e2 dgetS (eVar 1) (eC (.str "moment"))) (e2 ixD (eVar 0) (eC (.int 2)))))
    sNil)
    (sSeq (sIf (tVal (e2 (eqD false) (e2 ixD (eVar 0) (eC (.int 0))) (eC (.str "in"))))
    (sRet (eCall anyD (aCons (eComp [3] (iSeq (e2 dgetS (eVar 1) (eC (.str "places")))) (gN 3) tTrue (eCall F_is_within (aCons (eVar 3) (aCons (e2 ixD (eVar 0) (eC (.int 1))) aNil)))) aNil)))
    sNil)
    (sSeq (sIf (tVal (e2 (eqD false) (e2 ixD (eVar 0) (eC (.int 0))) (eC (.str "wide"))))
    (sRet (e2 gtD (e2 ixD (e2 dgetS (eVar 1) (eC (.str "size"))) (eC (.int 0))) (e2 ixD (e2 dgetS (eVar 1) (eC (.str "size"))) (eC (.int 1)))))
    sNil)
    (sSeq (sIf (tVal (e2 (eqD false) (e2 ixD (eVar 0) (eC (.int 0))) (eC (.str "lost"))))
    (sRet (e2 (eqD false) (e2 dgetS (eVar 1) (eC (.str "places"))) (eLst aNil)))
    sNil)
    (sRet (e2 dgetS (eVar 1) (eC (.str "changed")))))))))))))
noncomputable def F_holds : List D → Sto → Res D := recF 2 4 b_holds 6
noncomputable def b_is_rule (FR : List D → Sto → Res D) : MS :=
  (sSeq (sIf (tOrM (tVal (e2 (eqD false) (eVar 1) (eC (.int 0)))) (tOrM (tNotM (tVal (eCall isiD (aCons (eVar 0) (aCons (eC (.ty "tuple")) aNil))))) (tOrM (tVal (e2 (eqD false) (eCall lenD (aCons (eVar 0) aNil)) (eC (.int 0)))) (tNotM (tVal (eCall isiD (aCons (e2 ixD (eVar 0) (eC (.int 0))) (aCons (eC (.ty "str")) aNil))))))))
    (sRet (eC (.bl false)))
    sNil)
    (sSeq (sIf (tVal (e2 (inD false) (e2 ixD (eVar 0) (eC (.int 0))) (eTup (aCons (eC (.str "all")) (aCons (eC (.str "any")) aNil)))))
    (sSeq (sIf (tOrM (tVal (e2 (eqD true) (eCall lenD (aCons (eVar 0) aNil)) (eC (.int 2)))) (tOrM (tNotM (tVal (eCall isiD (aCons (e2 ixD (eVar 0) (eC (.int 1))) (aCons (eC (.ty "tuple")) aNil))))) (tVal (e2 gtD (eCall lenD (aCons (e2 ixD (eVar 0) (eC (.int 1))) aNil)) (eC (.int 4))))))
    (sRet (eC (.bl false)))
    sNil)
    (sRet (eCall allD (aCons (eComp [2] (iSeq (e2 ixD (eVar 0) (eC (.int 1)))) (gN 2) tTrue (eCall FR (aCons (eVar 2) (aCons (e2 subD (eVar 1) (eC (.int 1))) aNil)))) aNil))))
    sNil)
    (sSeq (sIf (tVal (e2 (eqD false) (e2 ixD (eVar 0) (eC (.int 0))) (eC (.str "not"))))
    (sRet (eAnd (e2 (eqD false) (eCall lenD (aCons (eVar 0) aNil)) (eC (.int 2))) (eCall FR (aCons (e2 ixD (eVar 0) (eC (.int 1))) (aCons (e2 subD (eVar 1) (eC (.int 1))) aNil)))))
    sNil)
    (sSeq (sIf (tVal (e2 (eqD false) (e2 ixD (eVar 0) (eC (.int 0))) (eC (.str "mark"))))
    (sRet (eAnd (e2 (eqD false) (eCall lenD (aCons (eVar 0) aNil)) (eC (.int 2))) (eCall F_is_word (aCons (e2 ixD (eVar 0) (eC (.int 1))) aNil))))
    sNil)
    (sSeq (sIf (tVal (e2 (eqD false) (e2 ixD (eVar 0) (eC (.int 0))) (eC (.str "stars"))))
    (sRet (eAnd (e2 (eqD false) (eCall lenD (aCons (eVar 0) aNil)) (eC (.int 2))) (eCall F_is_whole (aCons (e2 ixD (eVar 0) (eC (.int 1))) (aCons (eC (.int 0)) (aCons (eC (.int 5)) aNil))))))
    sNil)
    (sSeq (sIf (tVal (e2 (eqD false) (e2 ixD (eVar 0) (eC (.int 0))) (eC (.str "from"))))
    (sRet (eAnd (e2 (eqD false) (eCall lenD (aCons (eVar 0) aNil)) (eC (.int 3))) (eAnd (eCall F_is_whole (aCons (e2 ixD (eVar 0) (eC (.int 1))) (aCons (eC (.int 0)) (aCons (eC (.int 999)) aNil)))) (eCall F_is_whole (aCons (e2 ixD (eVar 0) (eC (.int 2))) (aCons (eC (.int 0)) (aCons (eC (.int 999)) aNil)))))))
    sNil)
    (sSeq (sIf (tVal (e2 (eqD false) (e2 ixD (eVar 0) (eC (.int 0))) (eC (.str "in"))))
    (sRet (eAnd (e2 (eqD false) (eCall lenD (aCons (eVar 0) aNil)) (eC (.int 2))) (eCall F_is_place (aCons (e2 ixD (eVar 0) (eC (.int 1))) aNil))))
    sNil)
    (sRet (e2 (inD false) (eVar 0) (eTup (aCons (eTup (aCons (eC (.str "wide")) aNil)) (aCons (eTup (aCons (eC (.str "lost")) aNil)) (aCons (eTup (aCons (eC (.str "changed")) aNil)) aNil)))))))))))))
noncomputable def F_is_rule : List D → Sto → Res D := recF 2 3 b_is_rule 6
noncomputable def b_need_rule : MS :=
  (sIf (tNotM (tVal (eCall F_is_rule (aCons (eVar 0) (aCons (eC (.int 4)) aNil)))))
    (sRaise "NoRule")
    sNil)
noncomputable def F_need_rule : List D → Sto → Res D := fnS 1 1 b_need_rule
noncomputable def b_Hall_mark : MS :=
  (sSeq (sSet 3 (eMeth "need" F_Hall_need (eVar 0) (aCons (eVar 1) aNil)))
    (sSeq (sIf (tNotM (tVal (eCall F_is_word (aCons (eVar 2) aNil))))
    (sRaise "NoWord")
    sNil)
    (sSeq (sIf (tVal (e2 (inD false) (eVar 2) (e2 dgetS (eVar 3) (eC (.str "marks")))))
    (sSeq (sExpr (eMethL removeD (e2 dgetS (eVar 3) (eC (.str "marks"))) (aCons (eVar 2) aNil)))
    (sRet (eC (.bl false))))
    sNil)
    (sSeq (sExpr (eMethL appendD (e2 dgetS (eVar 3) (eC (.str "marks"))) (aCons (eVar 2) aNil)))
    (sRet (eC (.bl true)))))))
noncomputable def F_Hall_mark : List D → Sto → Res D := fnS 3 4 b_Hall_mark
noncomputable def b_Hall_marks : MS :=
  (sRet (eCall sortedD (aCons (e2 dgetS (eMeth "need" F_Hall_need (eVar 0) (aCons (eVar 1) aNil)) (eC (.str "marks"))) aNil)))
noncomputable def F_Hall_marks : List D → Sto → Res D := fnS 2 2 b_Hall_marks
noncomputable def b_Hall_marks_N : MS :=
  (sRet (eCall sortedN (aCons (e2 dgetS (eMeth "need" F_Hall_need (eVar 0) (aCons (eVar 1) aNil)) (eC (.str "marks"))) aNil)))
noncomputable def F_Hall_marks_N : List D → Sto → Res D := fnS 2 2 b_Hall_marks_N
noncomputable def b_Hall_star : MS :=
  (sSeq (sSet 3 (eMeth "need" F_Hall_need (eVar 0) (aCons (eVar 1) aNil)))
    (sSeq (sIf (tNotM (tVal (eCall F_is_whole (aCons (eVar 2) (aCons (eC (.int 0)) (aCons (eC (.int 5)) aNil))))))
    (sRaise "NoStars")
    sNil)
    (sSeq (sSet 4 (e2 dgetS (eVar 3) (eC (.str "stars"))))
    (sSeq (sDputS (eVar 2) (eVar 3) (eC (.str "stars")))
    (sRet (eVar 4))))))
noncomputable def F_Hall_star : List D → Sto → Res D := fnS 3 5 b_Hall_star
noncomputable def b_Hall_known : MS :=
  (sSeq (sSet 2 (e2 ixD (e1 (fldD "rows") (eVar 0)) (eVar 1)))
    (sSeq (sSet 3 (eMeth "shown" F_Hall_shown (eVar 0) (aCons (eVar 1) aNil)))
    (sSeq (sSet 4 (eDictS [.inr "marks", .inr "stars", .inr "moment", .inr "places"] (aCons (e2 dgetS (eVar 2) (eC (.str "marks"))) (aCons (e2 dgetS (eVar 2) (eC (.str "stars"))) (aCons (e2 dgetS (eVar 2) (eC (.str "moment"))) (aCons (e2 dgetS (eVar 2) (eC (.str "places"))) aNil))))))
    (sSeq (sDputS (eTup (aCons (eCall lenD (aCons (e2 ixD (eVar 3) (eC (.int 0))) aNil)) (aCons (eCall lenD (aCons (eVar 3) aNil)) aNil))) (eVar 4) (eC (.str "size")))
    (sSeq (sDputS (e2 (eqD true) (eVar 3) (e2 dgetS (eVar 2) (eC (.str "first")))) (eVar 4) (eC (.str "changed")))
    (sRet (eVar 4)))))))
noncomputable def F_Hall_known : List D → Sto → Res D := fnS 2 5 b_Hall_known
noncomputable def b_Hall_album : MS :=
  (sSeq (sExpr (eCall F_need_rule (aCons (eVar 1) aNil)))
    (sRet (eComp [2] (iRng1' (aCons (eCall lenD (aCons (e1 (fldD "rows") (eVar 0)) aNil)) aNil)) (gN 2) (tVal (eCall F_holds (aCons (eVar 1) (aCons (eMeth "known" F_Hall_known (eVar 0) (aCons (eVar 2) aNil)) aNil)))) (eVar 2))))
noncomputable def F_Hall_album : List D → Sto → Res D := fnD 2 3 b_Hall_album
noncomputable def b_Hall_album_N : MS :=
  (sSeq (sExpr (eCall F_need_rule (aCons (eVar 1) aNil)))
    (sRet (eNewComp [2] (iRng1' (aCons (eCall lenD (aCons (e1 (fldD "rows") (eVar 0)) aNil)) aNil)) (gN 2) (tVal (eCall F_holds (aCons (eVar 1) (aCons (eMeth "known" F_Hall_known (eVar 0) (aCons (eVar 2) aNil)) aNil)))) (eVar 2))))
noncomputable def F_Hall_album_N : List D → Sto → Res D := fnS 2 3 b_Hall_album_N
noncomputable def b_Hall_saved : MS :=
  (sSeq (sSet 1 (eNewL aNil))
    (sSeq (sFor (iSeq (e1 (fldD "rows") (eVar 0))) (gN 2)
    (sSeq (sSet 3 (eTup (aCons (e2 dgetS (eVar 2) (eC (.str "first"))) (aCons (eCall tupleD (aCons (e2 dgetS (eVar 2) (eC (.str "places"))) aNil)) (aCons (e2 dgetS (eVar 2) (eC (.str "deeds"))) (aCons (eCall tupleD (aCons (eCall sortedD (aCons (e2 dgetS (eVar 2) (eC (.str "marks"))) aNil)) aNil)) aNil))))))
    (sExpr (eMethL appendD (eVar 1) (aCons (e2 addD (eVar 3) (eTup (aCons (e2 dgetS (eVar 2) (eC (.str "stars"))) (aCons (e2 dgetS (eVar 2) (eC (.str "moment"))) aNil)))) aNil)))))
    (sRet (eTup (aCons (eCall tupleD (aCons (eVar 1) aNil)) (aCons (eCall tupleD (aCons (e1 (fldD "past") (eVar 0)) aNil)) aNil))))))
noncomputable def F_Hall_saved : List D → Sto → Res D := fnD 1 4 b_Hall_saved
noncomputable def b_Hall_without : MS :=
  (sSeq (sSet 3 (eMeth "need" F_Hall_need (eVar 0) (aCons (eVar 1) aNil)))
    (sSeq (sIf (tNotM (tVal (eCall F_is_whole (aCons (eVar 2) (aCons (eC (.int 0)) (aCons (e2 subD (eCall lenD (aCons (e2 dgetS (eVar 3) (eC (.str "deeds"))) aNil)) (eC (.int 1))) aNil))))))
    (sRaise "NoPlace")
    sNil)
    (sExpr (eMeth "become" F_Hall_become (eVar 0) (aCons (eVar 1) (aCons (e2 addD (eSlc (e2 dgetS (eVar 3) (eC (.str "deeds"))) oNone (oSome (eVar 2))) (eSlc (e2 dgetS (eVar 3) (eC (.str "deeds"))) (oSome (e2 addD (eVar 2) (eC (.int 1)))) oNone)) aNil))))))
noncomputable def F_Hall_without : List D → Sto → Res D := fnS 3 4 b_Hall_without
noncomputable def b_Hall_like : MS :=
  (sSeq (sExpr (eMeth "need" F_Hall_need (eVar 0) (aCons (eVar 1) aNil)))
    (sExpr (eMeth "become" F_Hall_become (eVar 0) (aCons (eVar 1) (aCons (e2 dgetS (eMeth "need" F_Hall_need (eVar 0) (aCons (eVar 2) aNil)) (eC (.str "deeds"))) aNil)))))
noncomputable def F_Hall_like : List D → Sto → Res D := fnS 3 3 b_Hall_like
noncomputable def b_Hall_undo : MS :=
  (sSeq (sIf (tVal (e2 (eqD false) (e1 (fldD "past") (eVar 0)) (eLst aNil)))
    (sRaise "NoStep")
    sNil)
    (sSeq (sAsg (gT 2 (gsC (gN 1) (gsC (gN 2) gs0))) (eMethL popD (e1 (fldD "past") (eVar 0)) aNil))
    (sSeq (sDputS (eVar 2) (e2 ixD (e1 (fldD "rows") (eVar 0)) (eVar 1)) (eC (.str "deeds")))
    (sRet (eVar 1)))))
noncomputable def F_Hall_undo : List D → Sto → Res D := fnS 1 3 b_Hall_undo
end Py
set_option maxRecDepth 100000
set_option maxHeartbeats 1000000
namespace Py
open PySem PySem.Spec PyProof.Rows L2
local macro_rules | `(tactic| walk_at "ev") => `(tactic| simp (config := { decide := false }) [fnS, startF, bodyRes, sSeq, sIf, sRet, sSet, sExpr, sNil, sRaise, sRetN, sAsg, gT, gsC, gs0, gN, tVal, tAndM, tOrM, tNotM, eVar, eC, e1, e2, eAnd, eOr, eNot, eChain, eCall, eTup, eLst, eSlc, oNone, oSome, aNil, aCons, addD, subD, cmpI, negD, eMethL, appendD, lstOf])

/-- the script -/
abbrev scr (ns : List Int) : D := .fz (ns.map .int)
@[simp] theorem seqOf_scr (S : Sto) (ds : List D) : seqOf S (.fz ds) = some ds := rfl
@[simp] theorem seqOf_tup (S : Sto) (ds : List D) : seqOf S (.tup ds) = some ds := rfl
@[simp] theorem seqOf_lst (S : Sto) (ds : List D) : seqOf S (.lst ds) = some ds := rfl
@[simp] theorem lstOf_lst (S : Sto) (ds : List D) : lstOf S (.lst ds) = some ds := rfl
@[simp] theorem lenD_fz (S : Sto) (ds : List D) : lenD [.fz ds] S = .ok (.int ds.length) S := rfl
@[simp] theorem lenD_tup (S : Sto) (ds : List D) : lenD [.tup ds] S = .ok (.int ds.length) S := rfl
@[simp] theorem lenD_lst (S : Sto) (ds : List D) : lenD [.lst ds] S = .ok (.int ds.length) S := rfl
theorem atI_of {xs : List D} {i : Int} {j : Nat} (h : i = j) (hj : j < xs.length) : L2.atI xs i = some xs[j] := by
  subst h
  exact atI_nat (List.getElem?_eq_getElem hj)
def cellV (ns : List Int) (k : Nat) : Int := if k < ns.length then ns.getD k 0 else if ns = [] then 0 else (ns.getD (k % ns.length) 0) * 31 + k
theorem toPs_ints (f : Nat) (S : Sto) : ∀ ns : List Int, toPs (toP (f + 1) S) (ns.map .int) = some (ns.map .int)
  | [] => rfl
  | n :: ns => by simp only [List.map_cons, toPs, toP, toPs_ints f S ns]
theorem dP_scr (S : Sto) (ns : List Int) : dP S (scr ns) = some (.list (ns.map .int)) := by
  simp only [dP, toP, toPs_ints]; rfl
theorem ix_fz {S : Sto} {ds : List D} {i : Int} {j : Nat} (h : i = j) (hj : j < ds.length) : ixD (.fz ds) (.int i) S = .ok ds[j] S := by
  simp only [ixD, seqOf_scr, ixL, atI_of h hj]
theorem ix_tup {S : Sto} {ds : List D} {i : Int} {j : Nat} (h : i = j) (hj : j < ds.length) : ixD (.tup ds) (.int i) S = .ok ds[j] S := by
  simp only [ixD, seqOf_tup, ixL, atI_of h hj]
theorem ix_lst {S : Sto} {ds : List D} {i : Int} {j : Nat} (h : i = j) (hj : j < ds.length) : ixD (.lst ds) (.int i) S = .ok ds[j] S := by
  simp only [ixD, seqOf_lst, ixL, atI_of h hj]
theorem F_cell (ns : List Int) (k : Nat) (S : Sto) : F_law_cell_at [scr ns, .int k] S = .ok (.int (cellV ns k)) S := by
  unfold F_law_cell_at b_law_cell_at cellV
  by_cases h : k < ns.length
  · have := ix_fz (S := S) (ds := ns.map .int) (i := (k : Int)) rfl (by simpa using h)
    walk_at "ev"
    simp [h, this]
  · by_cases e : ns = []
    · subst e
      have h0 : ¬ ((k : Int) < 0) := by omega
      walk_at "ev"
      simp [h0, eqD, dP, toP, toPs, PyData.eqv, PyData.eqvAll]
    · have hm : k % ns.length < ns.length := Nat.mod_lt _ (List.length_pos_iff.2 e)
      have hi : ((k : Int) % (ns.length : Int)) = ((k % ns.length : Nat) : Int) := by omega
      have := ix_fz (S := S) (ds := ns.map .int) hi (by simpa using hm)
      have hne : eqD false (scr ns) (.lst []) S = .ok (.bl false) S := by
        simp only [eqD, dP_scr]
        cases ns with
        | nil => exact absurd rfl e
        | cons a b => simp [dP, toP, toPs, PyData.eqv, PyData.eqvAll]
      have hl : 0 < ns.length := List.length_pos_iff.2 e
      walk_at "ev"
      have s31 : smallI 31 := ⟨by decide, by decide⟩
      simp [h, hne, e, modD, hl, this, mulD, s31]
      simp [List.getD, hm]
theorem cellV_bound (ns : List Int) (k : Nat) : True := trivial
def mixV (ns : List Int) (k : Nat) (many : Int) : Int :=
  let d := (cellV ns k + 7919 * k + 1) * 48271 % 2147483647
  (d * d + 7 * d + k) % 2147483629 % many
theorem mixV_range (ns : List Int) (k : Nat) {many : Int} (h : 0 < many) : 0 ≤ mixV ns k many ∧ mixV ns k many < many :=
  ⟨Int.emod_nonneg _ (by omega), Int.emod_lt_of_pos _ h⟩
theorem F_mixed (ns : List Int) (k : Nat) {many : Int} (h : 0 < many) (S : Sto) : F_law_mixed [scr ns, .int k, .int many] S = .ok (.int (mixV ns k many)) S := by
  unfold F_law_mixed b_law_mixed mixV
  have hc := F_cell ns k S
  have s1 : smallI 7919 := ⟨by decide, by decide⟩
  have s2 : smallI 48271 := ⟨by decide, by decide⟩
  have s3 : smallI 7 := ⟨by decide, by decide⟩
  generalize hd : (cellV ns k + 7919 * (k : Int) + 1) * 48271 % 2147483647 = d
  have s4 : smallI d := by
    have a1 : 0 ≤ d := by rw [← hd]; exact Int.emod_nonneg _ (by decide)
    have a2 : d < 2147483647 := by rw [← hd]; exact Int.emod_lt_of_pos _ (by decide)
    unfold smallI
    omega
  walk_at "ev"
  simp [hc, mulD, s1, s2, s3, s4, modD, hd, h]
/-- the draws made so far, at the store's first place -/
abbrev Tn (n : Nat) (rest : Sto) : Sto := .lst (List.replicate n (.int 0)) :: rest
theorem F_draw (ns : List Int) (n : Nat) {many : Int} (h : 0 < many) (hn : n < 900000) (rest : Sto) : F_law_draw [scr ns, .ref 0, .int many] (Tn n rest) = .ok (.int (mixV ns (n + 1) many)) (Tn (n + 1) rest) := by
  unfold F_law_draw b_law_draw
  have hm := F_mixed ns (n + 1) h (Tn (n + 1) rest)
  have hl : n < sz := by unfold sz; omega
  have e : (List.replicate n (D.int 0)) ++ [D.int 0] = List.replicate (n + 1) (.int 0) := by rw [List.replicate_succ']
  have hm' : F_law_mixed [scr ns, D.int (↑n + 1), D.int many] (Tn (n + 1) rest) = Res.ok (D.int (mixV ns (n + 1) many)) (Tn (n + 1) rest) := by simpa using hm
  walk_at "ev"
  simp [hl, e, lenD, seqOf, lstOf]
  simp [hm']
theorem F_pick (ns : List Int) (n : Nat) (hn : n < 900000) (rest : Sto) {ds : List D} (hd : 0 < ds.length) :
    ∃ (j : Nat) (hj : j < ds.length), F_law_pick [scr ns, .ref 0, .lst ds] (Tn n rest) = .ok ds[j] (Tn (n + 1) rest) := by
  have hr := mixV_range ns (n + 1) (many := (ds.length : Int)) (by omega)
  refine ⟨(mixV ns (n + 1) (ds.length : Int)).toNat, by omega, ?_⟩
  unfold F_law_pick b_law_pick
  have hm := F_draw ns n (many := (ds.length : Int)) (by omega) hn rest
  have := ix_lst (S := Tn (n + 1) rest) (ds := ds) (i := mixV ns (n + 1) (ds.length : Int)) (j := (mixV ns (n + 1) (ds.length : Int)).toNat) (by omega) (by omega)
  walk_at "ev"
  simp [hm, this]
end Py
set_option maxRecDepth 100000
set_option maxHeartbeats 1000000
namespace Py
open PySem PySem.Spec PyProof.Rows L2
local macro_rules | `(tactic| walk_at "ev") => `(tactic| simp (config := { decide := false }) [fnS, startF, bodyRes, sSeq, sIf, sRet, sSet, sExpr, sNil, sRaise, sRetN, sAsg, gT, gsC, gs0, gN, tVal, tAndM, tOrM, tNotM, eVar, eC, e1, e2, eAnd, eOr, eNot, eChain, eCall, eTup, eLst, eSlc, oNone, oSome, aNil, aCons, addD, subD, cmpI, negD, eMethL, appendD, lstOf])
/-! ### comprehensions -/
theorem compL_st {it : Its} {g : MG} {c : MT} {e : ME} {fr : Fr} (φ : Nat → D) (σ : Nat → Sto) : ∀ (ds : List D) (i : Nat) (acc : List D),
    (∀ (j : Nat) (d : D), ds[j]? = some d → okG it (σ (i + j)) ∧ ∃ fr1, g d fr = some fr1 ∧ c fr1 (σ (i + j)) = .ok true (σ (i + j)) ∧ e fr1 (σ (i + j)) = .ok (φ (i + j)) (σ (i + j + 1))) → okG it (σ (i + ds.length)) → acc.length + ds.length ≤ sz →
    compL it g c e fr ds (σ i) acc = .ok (acc ++ (List.range ds.length).map fun j => φ (i + j)) (σ (i + ds.length))
  | [], i, acc, h, ho, hl => by
    simp only [compL]
    rw [if_pos (by simpa using ho)]
    simp
  | d :: ds, i, acc, h, ho, hl => by
    obtain ⟨h0, fr1, h1, h2, h3⟩ := h 0 d rfl
    simp only [Nat.add_zero] at h0 h1 h2 h3
    simp only [compL]
    rw [if_pos ⟨h0, by simp at hl; omega⟩, h1]
    simp only [h2, h3]
    rw [compL_st φ σ ds (i + 1) (acc ++ [φ i]) (fun j d' hj => ?_) (by simp at ho ⊢; rw [show i + 1 + ds.length = i + (ds.length + 1) by omega]; exact ho) (by simp at hl ⊢; omega)]
    · congr 1
      · rw [List.append_assoc]
        congr 1
        simp only [List.length_cons, List.range_succ_eq_map, List.map_cons, List.map_map, Nat.add_zero, List.singleton_append]
        congr 1
        apply List.map_congr_left
        intro a _
        simp only [Function.comp]
        congr 1
        omega
      · simp only [List.length_cons]
        congr 1
        omega
    · have := h (j + 1) d' (by simpa using hj)
      rw [show i + (j + 1) = i + 1 + j by omega] at this
      exact this
theorem eComp_st {vs : List Nat} {fi : MI} {g : MG} {c : MT} {e : ME} {fr : Fr} {S S1 : Sto} {it : Its} (hf : fi fr S = .ok it S1) (φ : Nat → D) (σ : Nat → Sto) (h0 : σ 0 = S1) (hl : it.items.length ≤ sz)
    (h : ∀ (j : Nat) (d : D), it.items[j]? = some d → okG it (σ j) ∧ ∃ fr1, g d (wipeF fr vs) = some fr1 ∧ c fr1 (σ j) = .ok true (σ j) ∧ e fr1 (σ j) = .ok (φ j) (σ (j + 1))) (ho : okG it (σ it.items.length)) :
    eComp vs fi g c e fr S = .ok (.lst ((List.range it.items.length).map φ)) (σ it.items.length) := by
  unfold eComp
  rw [hf, Res.bind_ok, ← h0, compL_st φ σ it.items 0 [] (fun j d hj => by simpa using h j d hj) (by simpa using ho) (by simpa using hl)]
  simp
theorem compL_map {it : Its} {g : MG} {c : MT} {e : ME} {fr : Fr} {S : Sto} (ho : okG it S) (p : D → Bool) (φ : D → D) : ∀ (ds acc : List D), (∀ d ∈ ds, ∃ fr1, g d fr = some fr1 ∧ c fr1 S = .ok (p d) S ∧ (p d = true → e fr1 S = .ok (φ d) S)) → acc.length + ds.length ≤ sz →
    compL it g c e fr ds S acc = .ok (acc ++ (ds.filter p).map φ) S
  | [], acc, h, hl => by simp only [compL]; rw [if_pos ho]; simp
  | d :: ds, acc, h, hl => by
    obtain ⟨fr1, h1, h2, h3⟩ := h d (List.mem_cons_self ..)
    have ih := fun acc' => compL_map ho p φ ds acc' (fun d' hd => h d' (List.mem_cons_of_mem _ hd))
    simp only [compL]
    rw [if_pos ⟨ho, by simp at hl; omega⟩, h1]
    simp only [h2]
    cases e1 : p d with
    | true =>
      simp only [h3 e1]
      rw [ih _ (by simp at hl ⊢; omega), List.filter_cons_of_pos e1]
      simp
    | false =>
      simp only
      rw [ih _ (by simp at hl ⊢; omega), List.filter_cons_of_neg (by simp [e1])]
theorem eComp_filter {vs : List Nat} {fi : MI} {g : MG} {c : MT} {e : ME} {fr : Fr} {S S1 : Sto} {it : Its} (hf : fi fr S = .ok it S1) (ho : okG it S1) (hl : it.items.length ≤ sz) (p : D → Bool) (φ : D → D)
    (h : ∀ d ∈ it.items, ∃ fr1, g d (wipeF fr vs) = some fr1 ∧ c fr1 S1 = .ok (p d) S1 ∧ (p d = true → e fr1 S1 = .ok (φ d) S1)) : eComp vs fi g c e fr S = .ok (.lst ((it.items.filter p).map φ)) S1 := by
  unfold eComp
  rw [hf, Res.bind_ok, compL_map ho p φ it.items [] h (by simpa using hl)]
  simp
theorem eComp_map {vs : List Nat} {fi : MI} {g : MG} {e : ME} {fr : Fr} {S S1 : Sto} {it : Its} (hf : fi fr S = .ok it S1) (ho : okG it S1) (hl : it.items.length ≤ sz) (φ : D → D)
    (h : ∀ d ∈ it.items, ∃ fr1, g d (wipeF fr vs) = some fr1 ∧ e fr1 S1 = .ok (φ d) S1) : eComp vs fi g tTrue e fr S = .ok (.lst (it.items.map φ)) S1 := by
  have := eComp_filter (vs := vs) (g := g) (c := tTrue) (e := e) hf ho hl (fun _ => true) φ (fun d hd => by
    obtain ⟨fr1, h1, h2⟩ := h d hd
    exact ⟨fr1, h1, rfl, fun _ => h2⟩)
  rw [this, List.filter_eq_self.2 (by simp)]
/-- over a tuple or a list by value, one name -/
theorem comp_seq {vs : List Nat} {i : Nat} {f e : ME} {fr : Fr} {S S1 : Sto} {ds : List D} (hf : f fr S = .ok (.tup ds) S1 ∨ f fr S = .ok (.lst ds) S1) (hl : ds.length ≤ sz) (φ : D → D) (h : ∀ d ∈ ds, e ((wipeF fr vs).set i (some d)) S1 = .ok (φ d) S1) :
    eComp vs (iSeq f) (gN i) tTrue e fr S = .ok (.lst (ds.map φ)) S1 := by
  have hi : iSeq f fr S = .ok ⟨ds, none⟩ S1 := by rcases hf with hf | hf <;> simp [iSeq, hf, seqIts]
  exact eComp_map hi trivial hl φ fun d hd => ⟨_, rfl, h d hd⟩
theorem comp_rng {vs : List Nat} {i : Nat} {f : MA} {e : ME} {fr : Fr} {S S1 : Sto} {n : Int} (hf : f fr S = .ok [.int n] S1) (h0 : 0 ≤ n) (hl : n ≤ 1000000) (φ : Nat → D) (h : ∀ k : Nat, (k : Int) < n → e ((wipeF fr vs).set i (some (.int k))) S1 = .ok (φ k) S1) :
    eComp vs (iRng1' f) (gN i) tTrue e fr S = .ok (.lst ((List.range n.toNat).map φ)) S1 := by
  have hi : iRng1' f fr S = .ok ⟨rngD 0 n.toNat, none⟩ S1 := by
    simp only [iRng1', hf, Res.bind_ok]
    rw [if_pos ⟨by omega, by omega⟩]
  have := eComp_st (vs := vs) (g := gN i) (c := tTrue) (e := e) hi φ (fun _ => S1) rfl (by rw [rngD_len]; unfold sz; omega) (fun j d hj => ⟨trivial, _, rfl, rfl, ?_⟩) trivial
  · rw [this, rngD_len]
  · have hjn : j < n.toNat := by have := (List.getElem?_eq_some_iff.1 hj).1; rw [rngD_len] at this; exact this
    rw [rngD_get hjn] at hj
    cases hj
    have := h j (by omega)
    simpa using this
/-! ### rows -/
abbrev rowsD (rs : List (List D)) : D := .tup (rs.map .tup)
def Rect {α : Type} (w : Nat) (rs : List (List α)) : Prop := ∀ r ∈ rs, r.length = w
def hd0 {α : Type} : List (List α) → List α
  | [] => []
  | r :: _ => r
def turnR {α : Type} (rs : List (List α)) : List (List α) := (List.range (hd0 rs).length).map fun k => rs.reverse.filterMap (·[k]?)
def mirR {α : Type} (rs : List (List α)) : List (List α) := rs.map List.reverse
theorem fm_getD {w k : Nat} (hk : k < w) : ∀ {rs : List (List D)}, Rect w rs → rs.filterMap (·[k]?) = rs.map fun r => r.getD k .non
  | [], _ => rfl
  | r :: rs, h => by
    have h1 : r.length = w := h r (List.mem_cons_self ..)
    have ih := fm_getD hk (rs := rs) fun r' hr => h r' (List.mem_cons_of_mem _ hr)
    have e : r[k]? = some (r.getD k .non) := by
      rw [List.getElem?_eq_getElem (by omega)]
      simp [List.getD, h1, hk]
    rw [List.filterMap_cons]
    simp only [e, ih, List.map_cons]
theorem Rect.rev {α : Type} {w : Nat} {rs : List (List α)} (h : Rect w rs) : Rect w rs.reverse := fun r hr => h r (List.mem_reverse.1 hr)
theorem Rect.head {α : Type} {w : Nat} {rs : List (List α)} (h : Rect w rs) (hne : rs ≠ []) : (hd0 rs).length = w := by
  cases rs with
  | nil => exact absurd rfl hne
  | cons r rs => exact h r (List.mem_cons_self ..)
theorem rect_cons {rs : List (List D)} (hne : rs ≠ []) : ∃ r rs', rs = r :: rs' := by
  cases rs with
  | nil => exact absurd rfl hne
  | cons r rs' => exact ⟨r, rs', rfl⟩
theorem ix_row0 {rs : List (List D)} (hne : rs ≠ []) (S : Sto) : ixD (rowsD rs) (.int 0) S = .ok (.tup (hd0 rs)) S := by
  obtain ⟨r, rs', rfl⟩ := rect_cons hne
  exact ix_tup (ds := (r :: rs').map .tup) (i := 0) (j := 0) rfl (by simp)
theorem ix_row {rs : List (List D)} {i : Int} {j : Nat} (h : i = j) (hj : j < rs.length) (S : Sto) : ixD (rowsD rs) (.int i) S = .ok (.tup rs[j]) S := by
  have := ix_tup (S := S) (ds := rs.map .tup) h (by simpa using hj)
  rw [this]; simp
theorem ix_cell {w k : Nat} {r : List D} (hl : r.length = w) (hk : k < w) (S : Sto) : ixD (.tup r) (.int k) S = .ok (r.getD k .non) S := by
  have := ix_tup (S := S) (ds := r) (i := (k : Int)) rfl (by omega)
  rw [this]
  simp [List.getD, hl, hk]
theorem F_turnedQ {rs : List (List D)} {w : Nat} (hr : Rect w rs) (hne : rs ≠ []) (hw : w ≤ 1000) (hl : rs.length ≤ 1000) (S : Sto) : F_turned_rows [rowsD rs] S = .ok (rowsD (turnR rs)) S := by
  have h0 := ix_row0 hne S
  have hh := hr.head hne
  have e : F_turned_rows [rowsD rs] S = bodyRes (b_turned_rows [some (rowsD rs), none, none] S) := rfl
  unfold b_turned_rows at e
  rw [e, sRet, eCall, aCons, comp_rng (S1 := S) (n := (w : Int)) (φ := fun k => .tup (rs.reverse.filterMap (·[k]?)))]
  · simp [aNil, tupleD, turnR, hh, bodyRes, Function.comp]
  · simp [aCons, aNil, eCall, e2, eVar, eC, h0, hh]
  · omega
  · omega
  · intro k hk
    rw [eCall, aCons, comp_seq (S1 := S) (ds := rs.reverse.map .tup) (φ := fun d => match d with | .tup r => r.getD k .non | _ => .non)]
    · rw [fm_getD (w := w) (by omega) hr.rev]
      simp [aNil, tupleD, List.map_map, Function.comp]
    · left; simp [wipeF, eStep, eVar, stepL]
    · simp; unfold sz; omega
    · intro d hd
      obtain ⟨r, hr', rfl⟩ := List.mem_map.1 hd
      simp [wipeF, e2, eVar, ix_cell (hr.rev r hr') (show k < w by omega)]
theorem F_mirroredQ {rs : List (List D)} (hl : rs.length ≤ 1000) (S : Sto) : F_mirrored_rows [rowsD rs] S = .ok (rowsD (mirR rs)) S := by
  have e : F_mirrored_rows [rowsD rs] S = bodyRes (b_mirrored_rows [some (rowsD rs), none] S) := rfl
  unfold b_mirrored_rows at e
  rw [e, sRet, eCall, aCons, comp_seq (S1 := S) (ds := rs.map .tup) (φ := fun d => match d with | .tup r => .tup r.reverse | _ => .non)]
  · simp [aNil, tupleD, bodyRes, mirR, Function.comp]
  · left; simp [eVar]
  · simp; unfold sz; omega
  · intro d hd
    obtain ⟨r, hr', rfl⟩ := List.mem_map.1 hd
    simp [wipeF, eStep, eVar, stepL]
end Py
set_option maxRecDepth 100000
set_option maxHeartbeats 1000000
namespace Py
open PySem PySem.Spec PyProof.Rows L2
local macro_rules | `(tactic| walk_at "ev") => `(tactic| simp (config := { decide := false }) [fnS, startF, bodyRes, sSeq, sIf, sRet, sSet, sExpr, sNil, sRaise, sRetN, sAsg, gT, gsC, gs0, gN, tVal, tAndM, tOrM, tNotM, eVar, eC, e1, e2, eAnd, eOr, eNot, eChain, eCall, eTup, eLst, eSlc, oNone, oSome, aNil, aCons, addD, subD, cmpI, negD, eMethL, appendD, lstOf])
/-! ### isinstance -/
theorem isi_ok {S : Sto} {x : D} {t c : String} {b : Bool} (h : tyOf S x = some t) (k : kitB t c = some b) : isiD [x, .ty c] S = .ok (.bl b) S := by simp only [isiD, h, k]
theorem kb_n_i : kitB "NoneType" "int" = some false := by decide +kernel
theorem kb_b_i : kitB "bool" "int" = some true := by decide +kernel
theorem kb_i_i : kitB "int" "int" = some true := by decide +kernel
theorem kb_s_i : kitB "str" "int" = some false := by decide +kernel
theorem kb_t_i : kitB "tuple" "int" = some false := by decide +kernel
theorem kb_l_i : kitB "list" "int" = some false := by decide +kernel
theorem kb_d_i : kitB "dict" "int" = some false := by decide +kernel
theorem kb_b_b : kitB "bool" "bool" = some true := by decide +kernel
theorem kb_i_b : kitB "int" "bool" = some false := by decide +kernel
theorem kb_n_t : kitB "NoneType" "tuple" = some false := by decide +kernel
theorem kb_b_t : kitB "bool" "tuple" = some false := by decide +kernel
theorem kb_i_t : kitB "int" "tuple" = some false := by decide +kernel
theorem kb_s_t : kitB "str" "tuple" = some false := by decide +kernel
theorem kb_t_t : kitB "tuple" "tuple" = some true := by decide +kernel
theorem kb_l_t : kitB "list" "tuple" = some false := by decide +kernel
theorem kb_d_t : kitB "dict" "tuple" = some false := by decide +kernel
theorem kb_n_s : kitB "NoneType" "str" = some false := by decide +kernel
theorem kb_b_s : kitB "bool" "str" = some false := by decide +kernel
theorem kb_i_s : kitB "int" "str" = some false := by decide +kernel
theorem kb_s_s : kitB "str" "str" = some true := by decide +kernel
theorem kb_t_s : kitB "tuple" "str" = some false := by decide +kernel
theorem kb_l_s : kitB "list" "str" = some false := by decide +kernel
theorem kb_d_s : kitB "dict" "str" = some false := by decide +kernel
theorem tyOf_cases {S : Sto} {x : D} {t : String} (h : tyOf S x = some t) : t = "NoneType" ∨ t = "bool" ∨ t = "int" ∨ t = "str" ∨ t = "tuple" ∨ t = "list" ∨ t = "dict" := by
  cases x with
  | ref n =>
    simp only [tyOf] at h
    split at h
    · cases h; simp
    · cases h; simp
    · cases h
  | adr a => cases h
  | ty a => cases h
  | fz a => cases h
  | _ => cases h; simp
/-- a thing whose type is told -/
abbrev Ty (S : Sto) (x : D) : Prop := ∃ t, tyOf S x = some t
def isI : D → Bool
  | .int _ => true
  | .bl _ => true
  | _ => false
def isB : D → Bool
  | .bl _ => true
  | _ => false
def isT : D → Bool
  | .tup _ => true
  | _ => false
def isS : D → Bool
  | .str _ => true
  | _ => false
theorem isi_int {S : Sto} {x : D} (h : Ty S x) : isiD [x, .ty "int"] S = .ok (.bl (isI x)) S := by
  obtain ⟨t, h⟩ := h
  cases x with
  | non => exact isi_ok h (by cases h; exact kb_n_i)
  | bl b => exact isi_ok h (by cases h; exact kb_b_i)
  | int b => exact isi_ok h (by cases h; exact kb_i_i)
  | str b => exact isi_ok h (by cases h; exact kb_s_i)
  | tup b => exact isi_ok h (by cases h; exact kb_t_i)
  | lst b => exact isi_ok h (by cases h; exact kb_l_i)
  | ref n =>
    refine isi_ok h ?_
    simp only [tyOf] at h
    split at h
    · cases h; exact kb_l_i
    · cases h; exact kb_d_i
    · cases h
  | _ => cases h
theorem isi_tup {S : Sto} {x : D} (h : Ty S x) : isiD [x, .ty "tuple"] S = .ok (.bl (isT x)) S := by
  obtain ⟨t, h⟩ := h
  cases x with
  | non => exact isi_ok h (by cases h; exact kb_n_t)
  | bl b => exact isi_ok h (by cases h; exact kb_b_t)
  | int b => exact isi_ok h (by cases h; exact kb_i_t)
  | str b => exact isi_ok h (by cases h; exact kb_s_t)
  | tup b => exact isi_ok h (by cases h; exact kb_t_t)
  | lst b => exact isi_ok h (by cases h; exact kb_l_t)
  | ref n =>
    refine isi_ok h ?_
    simp only [tyOf] at h
    split at h
    · cases h; exact kb_l_t
    · cases h; exact kb_d_t
    · cases h
  | _ => cases h
theorem isi_str {S : Sto} {x : D} (h : Ty S x) : isiD [x, .ty "str"] S = .ok (.bl (isS x)) S := by
  obtain ⟨t, h⟩ := h
  cases x with
  | non => exact isi_ok h (by cases h; exact kb_n_s)
  | bl b => exact isi_ok h (by cases h; exact kb_b_s)
  | int b => exact isi_ok h (by cases h; exact kb_i_s)
  | str b => exact isi_ok h (by cases h; exact kb_s_s)
  | tup b => exact isi_ok h (by cases h; exact kb_t_s)
  | lst b => exact isi_ok h (by cases h; exact kb_l_s)
  | ref n =>
    refine isi_ok h ?_
    simp only [tyOf] at h
    split at h
    · cases h; exact kb_l_s
    · cases h; exact kb_d_s
    · cases h
  | _ => cases h
theorem isi_bool {S : Sto} {x : D} (h : isI x = true) : isiD [x, .ty "bool"] S = .ok (.bl (isB x)) S := by
  cases x with
  | bl b => exact isi_ok rfl kb_b_b
  | int b => exact isi_ok rfl kb_i_b
  | _ => cases h
/-! ### whole numbers, pictures -/
def isW (lo hi : Int) : D → Bool
  | .int i => decide (lo ≤ i) && decide (i ≤ hi)
  | _ => false
theorem F_whole {S : Sto} {x : D} {lo hi : Int} (h : Ty S x) : F_is_whole [x, .int lo, .int hi] S = .ok (.bl (isW lo hi x)) S := by
  unfold F_is_whole b_is_whole
  have h1 := isi_int h
  cases x with
  | int i =>
    have h2 := isi_bool (S := S) (x := .int i) rfl
    by_cases c : lo ≤ i <;> (walk_at "ev"; simp [h1, h2, isI, isB, isW, c])
  | bl b =>
    have h2 := isi_bool (S := S) (x := .bl b) rfl
    walk_at "ev"; simp [h1, h2, isI, isB, isW]
  | _ => walk_at "ev"; simp [h1, isI, isW]
/-- a thing of which is_picture may be asked -/
def Ty3 (S : Sto) (x : D) : Prop := Ty S x ∧ ∀ rows, x = .tup rows → ∀ r ∈ rows, Ty S r ∧ ∀ cs, r = .tup cs → ∀ c ∈ cs, Ty S c
def rowOk : D → Bool
  | .tup cs => decide (1 ≤ cs.length) && decide (cs.length ≤ 8)
  | _ => false
def lenOf : D → Nat
  | .tup cs => cs.length
  | _ => 0
def cellsOk : D → Bool
  | .tup cs => cs.all (isW 0 9)
  | _ => false
def isPic : D → Bool
  | .tup rows => decide (1 ≤ rows.length) && decide (rows.length ≤ 8) && rows.all rowOk && rows.all (fun r => lenOf r == lenOf (rows.headD .non)) && rows.all cellsOk
  | _ => false
@[simp] theorem blsOf_map' {α : Type} (f : α → Bool) (xs : List α) : blsOf (xs.map fun a => D.bl (f a)) = some (xs.map f) := by
  have := blsOf_map (xs.map f)
  rw [List.map_map] at this
  exact this
theorem allD_map {S : Sto} (f : D → Bool) (xs : List D) : allD [.lst (xs.map fun a => D.bl (f a))] S = .ok (.bl (xs.all f)) S := by
  simp [allD, boolsD, List.all_map]
theorem allD_map' {α : Type} {S : Sto} (f : α → Bool) (xs : List α) : allD [.lst (xs.map fun a => D.bl (f a))] S = .ok (.bl (xs.all f)) S := by
  simp [allD, boolsD, List.all_map]
theorem eqD_int (S : Sto) (i j : Int) : eqD false (.int i) (.int j) S = .ok (.bl (decide (i = j))) S := by
  simp only [eqD, dP, toP, PyData.eqv, if_neg Bool.false_ne_true]
  congr 2
theorem neD_int (S : Sto) (i j : Int) : eqD true (.int i) (.int j) S = .ok (.bl (!decide (i = j))) S := by
  simp only [eqD, dP, toP, PyData.eqv, if_true]
  congr 3
theorem F_pic {S : Sto} {x : D} (h : Ty3 S x) : F_is_picture [x] S = .ok (.bl (isPic x)) S := by
  have e : F_is_picture [x] S = bodyRes (b_is_picture [some x, none, none] S) := rfl
  rw [e]
  unfold b_is_picture
  have h1 := isi_tup h.1
  cases x with
  | tup rows =>
    have hT := h.2 rows rfl
    by_cases hl : 1 ≤ rows.length ∧ rows.length ≤ 8
    · have hi : (1 : Int) ≤ (rows.length : Int) := by omega
      have hi8 : (rows.length : Int) ≤ 8 := by omega
      have hne : rows ≠ [] := by intro z; rw [z] at hl; simp at hl
      walk_at "ev"
      simp [h1, isT, hi, hi8]
      rw [comp_seq (S1 := S) (ds := rows) (φ := fun r => .bl (rowOk r))]
      · cases e1 : rows.all rowOk with
        | false =>
          have a1 := allD_map (S := S) rowOk rows
          rw [e1] at a1
          simp [a1, isPic, e1]
        | true =>
          have a1 := allD_map (S := S) rowOk rows
          rw [e1] at a1
          have hrow : ∀ r ∈ rows, ∃ cs, r = .tup cs ∧ cs.length ≤ 8 := fun r hr => by
            have := List.all_eq_true.1 e1 r hr
            cases r with
            | tup cs => simp [rowOk] at this; exact ⟨cs, rfl, this.2⟩
            | _ => simp [rowOk] at this
          simp [a1]
          rw [comp_seq (S1 := S) (ds := rows) (φ := fun r => .bl (lenOf r == lenOf (rows.headD .non)))]
          · cases e2 : rows.all (fun r => lenOf r == lenOf (rows.headD .non)) with
            | false =>
              have a2 := allD_map (S := S) (fun r => lenOf r == lenOf (rows.headD .non)) rows
              rw [e2] at a2
              rw [Res.bind_ok, Res.bind_ok, a2]
              simp only [Res.bind_ok, Res.then_ok, Bool.not_false, if_true, isPic, e2, Bool.and_false, Bool.false_and]
            | true =>
              have a2 := allD_map (S := S) (fun r => lenOf r == lenOf (rows.headD .non)) rows
              rw [e2] at a2
              rw [Res.bind_ok, Res.bind_ok, a2]
              simp only [Res.bind_ok, Res.then_ok, Bool.not_true, if_neg Bool.false_ne_true]
              rw [comp_seq (S1 := S) (ds := rows) (φ := fun r => .bl (cellsOk r))]
              · have a3 := allD_map (S := S) cellsOk rows
                rw [Res.bind_ok, Res.bind_ok, a3]
                simp only [Res.then_ok, isPic, e1, e2, Bool.and_true, decide_eq_true hl.1, decide_eq_true hl.2, Bool.true_and]
              · left; simp [eVar]
              · unfold sz; omega
              · intro r hr
                obtain ⟨cs, rfl, hc8⟩ := hrow r hr
                have hcs := (hT _ hr).2 cs rfl
                rw [eCall, aCons, comp_seq (S1 := S) (ds := cs) (φ := fun c => .bl (isW 0 9 c))]
                · have a4 := allD_map (S := S) (isW 0 9) cs
                  simp only [Res.bind_ok, aNil, a4, cellsOk]
                · left; simp [eVar, wipeF]
                · unfold sz; omega
                · intro c hc
                  have := F_whole (S := S) (lo := 0) (hi := 9) (hcs c hc)
                  simp [wipeF, eCall, aCons, aNil, eVar, eC, this]
          · left; simp [eVar]
          · unfold sz; omega
          · intro r hr
            obtain ⟨cs, rfl, hc8⟩ := hrow r hr
            have h0 : ∃ c0, rows.headD .non = .tup c0 ∧ ixD (.tup rows) (.int 0) S = .ok (.tup c0) S := by
              cases rows with
              | nil => exact absurd rfl hne
              | cons r0 rr =>
                obtain ⟨c0, e0, _⟩ := hrow r0 (List.mem_cons_self ..)
                exact ⟨c0, e0, by rw [ix_tup (ds := r0 :: rr) (i := 0) (j := 0) rfl (by simp)]; simp [e0]⟩
            obtain ⟨c0, q1, q2⟩ := h0
            simp only [q1, lenOf]
            have z : decide ((cs.length : Int) = (c0.length : Int)) = (cs.length == c0.length) := by rw [Bool.eq_iff_iff]; simp; omega
            simp only [wipeF, e2, eCall, aCons, aNil, eVar, eC, q2, eqD_int, Res.bind_ok, lenD_tup, List.set_cons_succ, List.set_cons_zero, List.getElem?_cons_succ, List.getElem?_cons_zero, List.foldl, z]
      · left; simp [eVar]
      · unfold sz; omega
      · intro r hr
        have h2 := isi_tup (hT r hr).1
        cases r with
        | tup cs =>
          by_cases c : 1 ≤ cs.length
          · have c' : (1 : Int) ≤ (cs.length : Int) := by omega
            simp [wipeF, eAnd, eCall, aCons, aNil, eVar, eC, h2, isT, eChain, cmpI, rowOk, c, c']
            omega
          · have c' : ¬ (1 : Int) ≤ (cs.length : Int) := by omega
            simp [wipeF, eAnd, eCall, aCons, aNil, eVar, eC, h2, isT, eChain, cmpI, rowOk, c, c']
        | _ => simp [wipeF, eAnd, eCall, aCons, aNil, eVar, eC, h2, isT, rowOk]
    · have hp : isPic (.tup rows) = false := by
        simp only [isPic]
        by_cases c : 1 ≤ rows.length
        · have : ¬ rows.length ≤ 8 := fun z => hl ⟨c, z⟩
          simp [this]
        · simp [c]
      by_cases c : 1 ≤ rows.length
      · have c1 : (1 : Int) ≤ (rows.length : Int) := by omega
        have c2 : ¬ (rows.length : Int) ≤ 8 := fun z => hl ⟨c, by omega⟩
        walk_at "ev"
        simp [h1, isT, c1, c2, hp]
      · have c1 : ¬ (1 : Int) ≤ (rows.length : Int) := by omega
        walk_at "ev"
        simp [h1, isT, c1, hp]
  | _ => walk_at "ev"; simp [h1, isT, isPic]
end Py
set_option maxRecDepth 100000
set_option maxHeartbeats 1000000
namespace Py
open PySem PySem.Spec PyProof.Rows L2
local macro_rules | `(tactic| walk_at "ev") => `(tactic| simp (config := { decide := false }) [fnS, startF, bodyRes, sSeq, sIf, sRet, sSet, sExpr, sNil, sRaise, sRetN, sAsg, gT, gsC, gs0, gN, tVal, tAndM, tOrM, tNotM, eVar, eC, e1, e2, eAnd, eOr, eNot, eChain, eCall, eTup, eLst, eSlc, oNone, oSome, aNil, aCons, addD, subD, cmpI, negD, eMethL, appendD, lstOf])
/-! ### evaluation -/
section
variable (f g h : ME) (a : MA) (p q : MT) (fr : Fr) (S : Sto)
@[simp] theorem ap_var (i : Nat) : eVar i fr S = (match fr[i]? with | some (some d) => .ok d S | _ => .bad) := id rfl
@[simp] theorem ap_c (d : D) : eC d fr S = .ok d S := id rfl
@[simp] theorem ap_1 (op : D → Sto → Res D) : e1 op f fr S = (f fr S).bind op := id rfl
@[simp] theorem ap_2 (op : D → D → Sto → Res D) : e2 op f g fr S = (f fr S).bind fun x S => (g fr S).bind fun y S => op x y S := id rfl
@[simp] theorem ap_val : tVal f fr S = (f fr S).bind fun d S => match d with | .bl b => .ok b S | _ => .bad := id rfl
@[simp] theorem ap_tand : tAndM p q fr S = (p fr S).bind fun b S => if b then q fr S else .ok false S := id rfl
@[simp] theorem ap_tor : tOrM p q fr S = (p fr S).bind fun b S => if b then .ok true S else q fr S := id rfl
@[simp] theorem ap_tnot : tNotM p fr S = (p fr S).bind fun b S => .ok (!b) S := id rfl
@[simp] theorem ap_and : eAnd f g fr S = (f fr S).bind fun d S => match d with | .bl b => if b then g fr S else .ok (.bl false) S | _ => .bad := id rfl
@[simp] theorem ap_or : eOr f g fr S = (f fr S).bind fun d S => match d with | .bl b => if b then .ok (.bl true) S else g fr S | _ => .bad := id rfl
@[simp] theorem ap_not : eNot f fr S = (f fr S).bind fun d S => match d with | .bl b => .ok (.bl (!b)) S | _ => .bad := id rfl
@[simp] theorem ap_nil : aNil fr S = .ok [] S := id rfl
@[simp] theorem ap_cons : aCons f a fr S = (f fr S).bind fun x S => (a fr S).bind fun xs S => .ok (x :: xs) S := id rfl
@[simp] theorem ap_tup : eTup a fr S = (a fr S).bind fun xs S => if xs.length ≤ sz then .ok (.tup xs) S else .bad := id rfl
@[simp] theorem ap_lst : eLst a fr S = (a fr S).bind fun xs S => if xs.length ≤ sz then .ok (.lst xs) S else .bad := id rfl
@[simp] theorem ap_newl : eNewL a fr S = (a fr S).bind fun xs S => if xs.length ≤ sz then .ok (.ref S.length) (S ++ [.lst xs]) else .bad := id rfl
@[simp] theorem ap_call (F : List D → Sto → Res D) : eCall F a fr S = (a fr S).bind F := id rfl
@[simp] theorem ap_chain (o1 o2 : D → D → Sto → Res D) : eChain o1 o2 f g h fr S = (f fr S).bind fun x S => (g fr S).bind fun y S => (o1 x y S).bind fun z S => match z with
  | .bl b => if b then (h fr S).bind fun w S => o2 y w S else .ok (.bl false) S
  | _ => .bad := id rfl
@[simp] theorem ap_step (c : Int) : eStep c f fr S = (f fr S).bind fun d S => match d with | .tup xs => .ok (.tup (stepL c xs)) S | _ => .bad := id rfl
@[simp] theorem ap_slc (lo hi : MO) : eSlc f lo hi fr S = (f fr S).bind fun d S => (lo fr S).bind fun a S => (hi fr S).bind fun b S => slcD d a b S := id rfl
@[simp] theorem ap_on : oNone fr S = .ok none S := id rfl
@[simp] theorem ap_os : oSome f fr S = (f fr S).bind fun d S => match d with | .int i => .ok (some i) S | _ => .bad := id rfl
@[simp] theorem ap_add (i j : Int) : addD (.int i) (.int j) S = .ok (.int (i + j)) S := id rfl
@[simp] theorem ap_sub (i j : Int) : subD (.int i) (.int j) S = .ok (.int (i - j)) S := id rfl
@[simp] theorem ap_lt (i j : Int) : ltD (.int i) (.int j) S = .ok (.bl (decide (i < j))) S := id rfl
@[simp] theorem ap_le (i j : Int) : leD (.int i) (.int j) S = .ok (.bl (decide (i ≤ j))) S := id rfl
@[simp] theorem ap_gt (i j : Int) : gtD (.int i) (.int j) S = .ok (.bl (decide (j < i))) S := id rfl
@[simp] theorem ap_ge (i j : Int) : geD (.int i) (.int j) S = .ok (.bl (decide (j ≤ i))) S := id rfl
@[simp] theorem ap_tupleT (xs : List D) : tupleD [.tup xs] S = .ok (.tup xs) S := id rfl
@[simp] theorem ap_tupleL (xs : List D) : tupleD [.lst xs] S = .ok (.tup xs) S := id rfl
@[simp] theorem ap_eqi (i j : Int) : eqD false (.int i) (.int j) S = .ok (.bl (decide (i = j))) S := eqD_int S i j
@[simp] theorem ap_nei (i j : Int) : eqD true (.int i) (.int j) S = .ok (.bl (!decide (i = j))) S := neD_int S i j
@[simp] theorem ap_slct (xs : List D) (lo hi : Option Int) : slcD (.tup xs) lo hi S = .ok (.tup (cutD xs lo hi)) S := id rfl
end
/-! ### statements, one at a time -/
theorem sq_nx {f g : MS} {fr fr1 : Fr} {S S1 : Sto} (h : f fr S = .nx fr1 S1) : sSeq f g fr S = g fr1 S1 := by simp only [sSeq, h]
theorem sq_ret {f g : MS} {fr : Fr} {S S1 : Sto} {d : D} (h : f fr S = .ret d S1) : sSeq f g fr S = .ret d S1 := by simp only [sSeq, h]
theorem sq_exc {f g : MS} {fr : Fr} {S S1 : Sto} {c : Str} (h : f fr S = .exc c S1) : sSeq f g fr S = .exc c S1 := by simp only [sSeq, h]
theorem sq_set {i : Nat} {e : ME} {g : MS} {fr : Fr} {S S1 : Sto} {d : D} (h : e fr S = .ok d S1) : sSeq (sSet i e) g fr S = g (fr.set i (some d)) S1 := by simp only [sSeq, sSet, h, Res.then_ok]
theorem sq_setx {i : Nat} {e : ME} {g : MS} {fr : Fr} {S S1 : Sto} {c : Str} (h : e fr S = .exc c S1) : sSeq (sSet i e) g fr S = .exc c S1 := by simp only [sSeq, sSet, h, Res.then_exc]
theorem sq_ex {e : ME} {g : MS} {fr : Fr} {S S1 : Sto} {d : D} (h : e fr S = .ok d S1) : sSeq (sExpr e) g fr S = g fr S1 := by simp only [sSeq, sExpr, h, Res.then_ok]
theorem sq_exx {e : ME} {g : MS} {fr : Fr} {S S1 : Sto} {c : Str} (h : e fr S = .exc c S1) : sSeq (sExpr e) g fr S = .exc c S1 := by simp only [sSeq, sExpr, h, Res.then_exc]
theorem sq_t {c : MT} {f1 f2 g : MS} {fr : Fr} {S S1 : Sto} (h : c fr S = .ok true S1) : sSeq (sIf c f1 f2) g fr S = sSeq f1 g fr S1 := by simp only [sSeq, sIf, h, Res.then_ok, if_true]
theorem sq_f {c : MT} {f1 g : MS} {fr : Fr} {S S1 : Sto} (h : c fr S = .ok false S1) : sSeq (sIf c f1 sNil) g fr S = g fr S1 := by simp [sSeq, sIf, h, sNil]
theorem sq_f' {c : MT} {f1 f2 g : MS} {fr : Fr} {S S1 : Sto} (h : c fr S = .ok false S1) : sSeq (sIf c f1 f2) g fr S = sSeq f2 g fr S1 := by simp [sSeq, sIf, h]
theorem s_ret {e : ME} {fr : Fr} {S S1 : Sto} {d : D} (h : e fr S = .ok d S1) : sRet e fr S = .ret d S1 := by simp only [sRet, h, Res.then_ok]
theorem s_retx {e : ME} {fr : Fr} {S S1 : Sto} {c : Str} (h : e fr S = .exc c S1) : sRet e fr S = .exc c S1 := by simp only [sRet, h, Res.then_exc]
theorem sq_r {e : ME} {g : MS} {fr : Fr} {S S1 : Sto} {d : D} (h : e fr S = .ok d S1) : sSeq (sRet e) g fr S = .ret d S1 := by simp only [sSeq, sRet, h, Res.then_ok]
theorem sq_rx {e : ME} {g : MS} {fr : Fr} {S S1 : Sto} {c : Str} (h : e fr S = .exc c S1) : sSeq (sRet e) g fr S = .exc c S1 := by simp only [sSeq, sRet, h, Res.then_exc]
@[simp] theorem body_ret (d : D) (S : Sto) : bodyRes (.ret d S) = .ok d S := id rfl
@[simp] theorem body_nx (fr : Fr) (S : Sto) : bodyRes (.nx fr S) = .ok .non S := id rfl
@[simp] theorem body_exc (c : Str) (S : Sto) : bodyRes (.exc c S) = .exc c S := id rfl
theorem fnS_eq {n N : Nat} {b : MS} {ds : List D} {S : Sto} (h : ds.length = n) : fnS n N b ds S = bodyRes (b (startF N ds) S) := by simp [fnS, h]
/-! ### tables -/
def tb {α : Type} (n : Nat) (f : Nat → α) : List α := (List.range n).map f
@[simp] theorem tb_len {α : Type} (n : Nat) (f : Nat → α) : (tb n f).length = n := by simp [tb]
@[simp] theorem tb_get {α : Type} {n : Nat} {f : Nat → α} {k : Nat} (h : k < (tb n f).length) : (tb n f)[k] = f k := by simp [tb]
theorem tb_get? {α : Type} {n : Nat} {f : Nat → α} {k : Nat} : (tb n f)[k]? = if k < n then some (f k) else none := by
  by_cases h : k < n
  · rw [if_pos h, List.getElem?_eq_getElem (by simpa using h), tb_get]
  · rw [if_neg h, List.getElem?_eq_none (by simpa using h)]
theorem tb_ext {α : Type} {n : Nat} {f : Nat → α} {xs : List α} (hl : xs.length = n) (h : ∀ k (hk : k < xs.length), k < n → xs[k] = f k) : xs = tb n f := by
  apply List.ext_getElem
  · simpa using hl
  · intro i h1 h2
    rw [tb_get]
    exact h i h1 (by omega)
theorem tb_congr {α : Type} {n : Nat} {f g : Nat → α} (h : ∀ k, k < n → f k = g k) : tb n f = tb n g :=
  tb_ext (by simp) fun k hk hn => by rw [tb_get]; exact h k hn
@[simp] theorem tb_map {α β : Type} {n : Nat} {f : Nat → α} (φ : α → β) : (tb n f).map φ = tb n (fun k => φ (f k)) := by simp [tb, Function.comp]
theorem tb_rev {α : Type} {n : Nat} {f : Nat → α} : (tb n f).reverse = tb n (fun k => f (n - 1 - k)) := by
  refine tb_ext (by simp) fun k hk hn => ?_
  rw [List.getElem_reverse, tb_get]
  simp
theorem tb_step {α : Type} {n : Nat} {f : Nat → α} : stepL 2 (tb n f) = tb ((n + 1) / 2) (fun k => f (2 * k)) := by
  have e : stepL 2 (tb n f) = evens (tb n f) := by simp [stepL]
  rw [e]
  refine tb_ext (by rw [evens_len]; simp) fun k hk hn => ?_
  have := evens_get (tb n f) k
  rw [List.getElem?_eq_getElem hk, tb_get?, if_pos (by omega)] at this
  exact Option.some.inj this
theorem tb_cut {n a b : Nat} {f : Nat → D} (h : a + b ≤ n) : cutD (tb n f) (some (a : Int)) (some ((a + b : Nat) : Int)) = tb b (fun k => f (a + k)) := by
  unfold cutD
  rw [HT.sIx_nat, HT.sIx_nat, tb_len, Nat.min_eq_left (by omega), Nat.min_eq_left (by omega)]
  refine tb_ext (by simp; omega) fun k hk hn => ?_
  simp
theorem tb_of {α : Type} (z : α) (xs : List α) : xs = tb xs.length (fun k => xs.getD k z) := by
  refine tb_ext rfl fun k hk hn => ?_
  simp [List.getD, hn]
theorem tb_filter_all {α : Type} {n : Nat} {f : Nat → α} (p : α → Bool) : (tb n f).all p = (List.range n).all fun k => p (f k) := by simp [tb, List.all_map, Function.comp_def]
theorem comp_tb {vs : List Nat} {i : Nat} {f e : ME} {fr : Fr} {S S1 : Sto} {n : Nat} {g : Nat → D} (hf : f fr S = .ok (.tup (tb n g)) S1 ∨ f fr S = .ok (.lst (tb n g)) S1) (hl : n ≤ sz) (φ : Nat → D) (h : ∀ k, k < n → e ((wipeF fr vs).set i (some (g k))) S1 = .ok (φ k) S1) :
    eComp vs (iSeq f) (gN i) tTrue e fr S = .ok (.lst (tb n φ)) S1 := by
  have hi : iSeq f fr S = .ok ⟨tb n g, none⟩ S1 := by rcases hf with hf | hf <;> simp [iSeq, hf, seqIts]
  have := eComp_st (vs := vs) (g := gN i) (c := tTrue) (e := e) hi φ (fun _ => S1) rfl (by simpa using hl) (fun j d hj => ⟨trivial, _, rfl, rfl, ?_⟩) trivial
  · rw [this]; simp [tb]
  · simp only [tb_get?] at hj
    split at hj
    · rename_i hk
      cases hj
      exact h j hk
    · cases hj
theorem comp_rt {vs : List Nat} {i : Nat} {f : MA} {e : ME} {fr : Fr} {S S1 : Sto} {n : Nat} (hf : f fr S = .ok [.int (n : Int)] S1) (hl : n ≤ 1000000) (φ : Nat → D) (h : ∀ k : Nat, k < n → e ((wipeF fr vs).set i (some (.int k))) S1 = .ok (φ k) S1) :
    eComp vs (iRng1' f) (gN i) tTrue e fr S = .ok (.lst (tb n φ)) S1 := by
  have := comp_rng (vs := vs) (i := i) (e := e) hf (by omega) (by omega) φ (fun k hk => h k (by omega))
  rw [this]; simp [tb]
/-! ### grids: (width, height), cells by (down, across) -/
def gridD (s : Nat × Nat) (f : Nat × Nat → D) : D := .tup (tb s.2 fun j => .tup (tb s.1 fun k => f (j, k)))
theorem gridD_congr {s : Nat × Nat} {f g : Nat × Nat → D} (h : ∀ j k, j < s.2 → k < s.1 → f (j, k) = g (j, k)) : gridD s f = gridD s g := by
  unfold gridD
  congr 1
  exact tb_congr fun j hj => by congr 1; exact tb_congr fun k hk => h j k hj hk
theorem g_len (S : Sto) (s : Nat × Nat) (f : Nat × Nat → D) : lenD [gridD s f] S = .ok (.int s.2) S := by simp [gridD]
theorem g_row {S : Sto} {s : Nat × Nat} {f : Nat × Nat → D} {i : Int} {j : Nat} (h : i = j) (hj : j < s.2) : ixD (gridD s f) (.int i) S = .ok (.tup (tb s.1 fun k => f (j, k))) S := by
  unfold gridD
  rw [ix_tup h (by simpa using hj), tb_get]
theorem t_cell {S : Sto} {n : Nat} {f : Nat → D} {i : Int} {j : Nat} (h : i = j) (hj : j < n) : ixD (.tup (tb n f)) (.int i) S = .ok (f j) S := by
  rw [ix_tup h (by simpa using hj), tb_get]
theorem G_turned {s : Nat × Nat} {f : Nat × Nat → D} (h0 : 0 < s.2) (h1 : s.1 ≤ 1000) (h2 : s.2 ≤ 1000) (S : Sto) : F_turned_rows [gridD s f] S = .ok (gridD (s.2, s.1) fun p => f (s.2 - 1 - p.2, p.1)) S := by
  have e : F_turned_rows [gridD s f] S = bodyRes (b_turned_rows [some (gridD s f), none, none] S) := rfl
  unfold b_turned_rows at e
  rw [e, sRet, eCall, aCons, comp_rt (S1 := S) (n := s.1) (φ := fun k => .tup (tb s.2 fun j => f (s.2 - 1 - j, k)))]
  · simp [aNil, tupleD, bodyRes, gridD]
  · simp [aCons, aNil, eCall, e2, eVar, eC, g_row (S := S) (s := s) (f := f) (i := 0) (j := 0) rfl h0]
  · omega
  · intro k hk
    rw [eCall, aCons, comp_tb (S1 := S) (n := s.2) (g := fun j => .tup (tb s.1 fun k => f (s.2 - 1 - j, k))) (φ := fun j => f (s.2 - 1 - j, k))]
    · simp [aNil, tupleD]
    · left
      simp [wipeF, eStep, eVar, gridD, stepL, tb_rev]
    · unfold sz; omega
    · intro j hj
      simp [wipeF, e2, eVar, t_cell (S := S) (n := s.1) (f := fun k => f (s.2 - 1 - j, k)) (i := (k : Int)) rfl hk]
theorem G_mirrored {s : Nat × Nat} {f : Nat × Nat → D} (h2 : s.2 ≤ 1000) (S : Sto) : F_mirrored_rows [gridD s f] S = .ok (gridD s fun p => f (p.1, s.1 - 1 - p.2)) S := by
  have e : F_mirrored_rows [gridD s f] S = bodyRes (b_mirrored_rows [some (gridD s f), none] S) := rfl
  unfold b_mirrored_rows at e
  rw [e, sRet, eCall, aCons, comp_tb (S1 := S) (n := s.2) (g := fun j => .tup (tb s.1 fun k => f (j, k))) (φ := fun j => .tup (tb s.1 fun k => f (j, s.1 - 1 - k)))]
  · simp [aNil, tupleD, bodyRes, gridD]
  · left; simp [eVar, gridD]
  · unfold sz; omega
  · intro j hj
    simp [wipeF, eStep, eVar, stepL, tb_rev]
/-! ### deeds -/
inductive Deed where
  | turn | mirror | invert | halve | light (l : Int) | cut (l t w h : Nat)
deriving DecidableEq
def Deed.nm : Deed → Str
  | .turn => "turn" | .mirror => "mirror" | .invert => "invert" | .halve => "halve" | .light _ => "light" | .cut _ _ _ _ => "cut"
def Deed.d : Deed → D
  | .light l => .tup [.str "light", .int l]
  | .cut l t w h => .tup [.str "cut", .int l, .int t, .int w, .int h]
  | .turn => .tup [.str "turn"] | .mirror => .tup [.str "mirror"] | .invert => .tup [.str "invert"] | .halve => .tup [.str "halve"]
def mvS : Deed → Nat × Nat → Option (Nat × Nat)
  | .turn, s => some (s.2, s.1)
  | .halve, s => some ((s.1 + 1) / 2, (s.2 + 1) / 2)
  | .cut l t a b, s => if l + a ≤ s.1 ∧ t + b ≤ s.2 then some (a, b) else none
  | _, s => some s
def mvP : Deed → Nat × Nat → Nat × Nat → Nat × Nat
  | .turn, s, p => (s.2 - 1 - p.2, p.1)
  | .mirror, s, p => (p.1, s.1 - 1 - p.2)
  | .halve, _, p => (2 * p.1, 2 * p.2)
  | .cut l t _ _, _, p => (t + p.1, l + p.2)
  | _, _, p => p
def lgt : Deed → Int → Int
  | .invert, x => 9 - x
  | .light l, x => max 0 (min 9 (x + l))
  | _, x => x
theorem ok_turn : PyData.strOk "turn" = true := by decide +kernel
theorem ok_mirror : PyData.strOk "mirror" = true := by decide +kernel
theorem ok_invert : PyData.strOk "invert" = true := by decide +kernel
theorem ok_halve : PyData.strOk "halve" = true := by decide +kernel
theorem ok_light : PyData.strOk "light" = true := by decide +kernel
theorem ok_cut : PyData.strOk "cut" = true := by decide +kernel
theorem eqD_str {S : Sto} {x y : Str} {b : Bool} (hx : PyData.strOk x = true) (hy : PyData.strOk y = true) (h : (x == y) = b) : eqD false (.str x) (.str y) S = .ok (.bl b) S := by
  simp only [eqD, dP, toP, hx, hy, PyData.eqv, if_true, if_neg Bool.false_ne_true, h]
theorem neD_str {S : Sto} {x y : Str} {b : Bool} (hx : PyData.strOk x = true) (hy : PyData.strOk y = true) (h : (x == y) = b) : eqD true (.str x) (.str y) S = .ok (.bl (!b)) S := by
  simp only [eqD, dP, toP, hx, hy, PyData.eqv, if_true, h]
def Deed.isTurn : Deed → Bool | .turn => true | _ => false
def Deed.isMirror : Deed → Bool | .mirror => true | _ => false
def Deed.isInvert : Deed → Bool | .invert => true | _ => false
def Deed.isHalve : Deed → Bool | .halve => true | _ => false
def Deed.isLight : Deed → Bool | .light _ => true | _ => false
def Deed.isCut : Deed → Bool | .cut _ _ _ _ => true | _ => false
theorem nm_turn (d : Deed) : ((d.nm : Str) == ("turn" : Str)) = d.isTurn := by cases d <;> (simp only [Deed.nm, Deed.isTurn]; decide +kernel)
theorem nm_mirror (d : Deed) : ((d.nm : Str) == ("mirror" : Str)) = d.isMirror := by cases d <;> (simp only [Deed.nm, Deed.isMirror]; decide +kernel)
theorem nm_invert (d : Deed) : ((d.nm : Str) == ("invert" : Str)) = d.isInvert := by cases d <;> (simp only [Deed.nm, Deed.isInvert]; decide +kernel)
theorem nm_halve (d : Deed) : ((d.nm : Str) == ("halve" : Str)) = d.isHalve := by cases d <;> (simp only [Deed.nm, Deed.isHalve]; decide +kernel)
theorem nm_light (d : Deed) : ((d.nm : Str) == ("light" : Str)) = d.isLight := by cases d <;> (simp only [Deed.nm, Deed.isLight]; decide +kernel)
theorem nm_cut (d : Deed) : ((d.nm : Str) == ("cut" : Str)) = d.isCut := by cases d <;> (simp only [Deed.nm, Deed.isCut]; decide +kernel)
theorem Deed.ok (d : Deed) : PyData.strOk d.nm = true := by
  cases d
  · exact ok_turn
  · exact ok_mirror
  · exact ok_invert
  · exact ok_halve
  · exact ok_light
  · exact ok_cut
theorem d_ix0 (d : Deed) (S : Sto) : ixD d.d (.int 0) S = .ok (.str d.nm) S := by cases d <;> rfl
theorem G_moved {s : Nat × Nat} {f : Nat × Nat → D} (d : Deed) (h0 : 0 < s.2) (h1 : s.1 ≤ 1000) (h2 : s.2 ≤ 1000) (S : Sto) :
    F_moved [gridD s f, d.d] S = (match mvS d s with | none => .exc "NoCut" S | some s' => .ok (gridD s' fun p => f (mvP d s p)) S) := by
  have e : F_moved [gridD s f, d.d] S = bodyRes (b_moved [some (gridD s f), some d.d, none, none, none, none, none] S) := rfl
  rw [e]
  unfold b_moved
  have x0 := d_ix0 d S
  have e1 := eqD_str (S := S) d.ok ok_turn (nm_turn d)
  have e2' := eqD_str (S := S) d.ok ok_mirror (nm_mirror d)
  have e3 := eqD_str (S := S) d.ok ok_halve (nm_halve d)
  have e4 := eqD_str (S := S) d.ok ok_cut (nm_cut d)
  cases d with
  | turn =>
    have := G_turned (f := f) h0 h1 h2 S
    simp [Deed.nm, Deed.d, Deed.isTurn, Deed.isMirror, Deed.isHalve, Deed.isCut] at e1 x0
    simp only [Deed.d]
    walk_at "ev"
    simp [x0, e1, this, mvS, mvP]
  | mirror =>
    have := G_mirrored (f := f) h2 S
    simp [Deed.nm, Deed.d, Deed.isTurn, Deed.isMirror, Deed.isHalve, Deed.isCut] at e1 e2' x0
    simp only [Deed.d]
    walk_at "ev"
    simp [x0, e1, e2', this, mvS, mvP]
  | invert =>
    simp [Deed.nm, Deed.d, Deed.isTurn, Deed.isMirror, Deed.isHalve, Deed.isCut] at e1 e2' e3 e4 x0
    simp only [Deed.d]
    walk_at "ev"
    simp [x0, e1, e2', e3, e4, mvS, mvP]
  | light l =>
    simp [Deed.nm, Deed.d, Deed.isTurn, Deed.isMirror, Deed.isHalve, Deed.isCut] at e1 e2' e3 e4 x0
    simp only [Deed.d]
    walk_at "ev"
    simp [x0, e1, e2', e3, e4, mvS, mvP]
  | halve =>
    simp [Deed.nm, Deed.d, Deed.isTurn, Deed.isMirror, Deed.isHalve, Deed.isCut] at e1 e2' e3 x0
    simp only [Deed.d]
    walk_at "ev"
    simp [x0, e1, e2', e3, mvS, mvP]
    rw [comp_tb (S1 := S) (n := (s.2 + 1) / 2) (g := fun j => .tup (tb s.1 fun k => f (2 * j, k))) (φ := fun j => .tup (tb ((s.1 + 1) / 2) fun k => f (2 * j, 2 * k)))]
    · simp [tupleD, gridD]
    · left; simp [eStep, eVar, gridD, tb_step]
    · unfold sz; omega
    · intro j hj
      simp [wipeF, eStep, eVar, tb_step]
  | cut l t a b =>
    simp [Deed.nm, Deed.d, Deed.isTurn, Deed.isMirror, Deed.isHalve, Deed.isCut] at e1 e2' e3 e4 x0
    have q : cutD [D.str "cut", .int l, .int t, .int a, .int b] (some (1 : Int)) none = [.int l, .int t, .int a, .int b] := by
      unfold cutD
      have : HT.sIx 5 0 (some (1 : Int)) = 1 := HT.sIx_nat 5 0 1
      simp [this, HT.sIx_none]
    have r0 := g_row (S := S) (s := s) (f := f) (i := 0) (j := 0) rfl h0
    have rl := g_len S s f
    simp only [Deed.d]
    walk_at "ev"
    simp [x0, e1, e2', e3, e4, Deed.d, slcD, q, r0, rl, mvS, mvP]
    by_cases c1 : l + a ≤ s.1
    · have c1' : ¬ (s.1 : Int) < (l : Int) + (a : Int) := by omega
      by_cases c2 : t + b ≤ s.2
      · have c2' : ¬ (s.2 : Int) < (t : Int) + (b : Int) := by omega
        simp [c1, c1', c2, c2', cmpI, rl]
        rw [comp_tb (S1 := S) (n := b) (g := fun j => .tup (tb s.1 fun k => f (t + j, k))) (φ := fun j => .tup (tb a fun k => f (t + j, l + k)))]
        · simp [tupleD, gridD]
        · left
          have := tb_cut (f := fun j => D.tup (tb s.1 fun k => f (j, k))) c2
          simp at this
          simp [eVar, gridD, slcD, this]
        · unfold sz; omega
        · intro j hj
          have := tb_cut (f := fun k => f (t + j, k)) c1
          simp at this
          simp [wipeF, eVar, slcD, this]
      · have c2' : (s.2 : Int) < (t : Int) + (b : Int) := by omega
        simp [c1, c1', c2, c2', cmpI, rl]
    · have c1' : (s.1 : Int) < (l : Int) + (a : Int) := by omega
      simp [c1, c1', cmpI]
end Py
set_option maxRecDepth 100000
set_option maxHeartbeats 1000000
namespace Py
open PySem PySem.Spec PyProof.Rows L2
/-! ### is_deed, are_deeds -/
def okDeed : Deed → Bool
  | .light l => decide (-9 ≤ l) && decide (l ≤ 9)
  | .cut l t w h => decide (l ≤ 7) && decide (t ≤ 7) && decide (1 ≤ w) && decide (w ≤ 8) && decide (1 ≤ h) && decide (h ≤ 8)
  | _ => true
abbrev deedsD (ds : List Deed) : D := .tup (ds.map Deed.d)
theorem ty_int {S : Sto} {i : Int} : Ty S (.int i) := ⟨_, rfl⟩
theorem ty_tup {S : Sto} {i : List D} : Ty S (.tup i) := ⟨_, rfl⟩
theorem ty_str {S : Sto} {i : Str} : Ty S (.str i) := ⟨_, rfl⟩
theorem ty_non {S : Sto} : Ty S .non := ⟨_, rfl⟩
theorem ty_bl {S : Sto} {b : Bool} : Ty S (.bl b) := ⟨_, rfl⟩
theorem ty_lst {S : Sto} {i : List D} : Ty S (.lst i) := ⟨_, rfl⟩
theorem dP_plain (S : Sto) : dP S g_PLAIN = some (.tuple [.tuple [.str "turn"], .tuple [.str "mirror"], .tuple [.str "invert"], .tuple [.str "halve"]]) := by
  simp [g_PLAIN, dP, toP, toPs, ok_turn, ok_mirror, ok_invert, ok_halve]
theorem dP_str1 (S : Sto) {x : Str} (h : PyData.strOk x = true) : dP S (.tup [.str x]) = some (.tuple [.str x]) := by
  simp [dP, toP, toPs, h]
theorem in_plain {S : Sto} {x : Str} (h : PyData.strOk x = true) : inD false (.tup [.str x]) g_PLAIN S = .ok (.bl ([("turn" : Str), "mirror", "invert", "halve"].any (· == x))) S := by
  simp only [inD, dP_plain, dP_str1 S h]
  simp [PyData.eqv, PyData.eqvAll]
theorem d_isT (d : Deed) (S : Sto) : isiD [d.d, .ty "tuple"] S = .ok (.bl true) S := by
  have h : Ty S d.d := by cases d <;> exact ty_tup
  rw [isi_tup h]
  cases d <;> rfl
theorem s_isS (x : Str) (S : Sto) : isiD [.str x, .ty "str"] S = .ok (.bl true) S := by rw [isi_str ty_str]; rfl
theorem all2 {S : Sto} {a b : Bool} : allD [.lst [.bl a, .bl b]] S = .ok (.bl (a && b)) S := by simp [allD, boolsD, blsOf]
theorem F_deed (d : Deed) (S : Sto) : F_is_deed [d.d] S = .ok (.bl (okDeed d)) S := by
  have e : F_is_deed [d.d] S = bodyRes (b_is_deed [some d.d, none] S) := rfl
  rw [e]
  unfold b_is_deed
  have x0 := d_ix0 d S
  have h1 := d_isT d S
  have h2 := s_isS d.nm S
  have e1 := eqD_str (S := S) d.ok ok_light (nm_light d)
  have e2' := neD_str (S := S) d.ok ok_cut (nm_cut d)
  have hl : ∃ n : Nat, lenD [d.d] S = .ok (.int ((n + 1 : Nat) : Int)) S := by cases d <;> exact ⟨_, rfl⟩
  obtain ⟨n, hl⟩ := hl
  have n0 : decide (((n + 1 : Nat) : Int) = 0) = false := by simp; omega
  rw [sq_f (S1 := S) (by simp [h1, hl, n0, x0, h2]; omega)]
  cases d with
  | light l =>
    have hw := F_whole (S := S) (x := .int l) (lo := -9) (hi := 9) ty_int
    have i1 : ixD (.tup [.str "light", .int l]) (.int 1) S = .ok (.int l) S := ix_tup (j := 1) rfl (by simp)
    rw [sq_t (S1 := S) (by simp [x0, e1, Deed.isLight]), sq_r (d := .bl (okDeed (.light l))) (S1 := S) (by simp [Deed.d, i1, hw, isW, okDeed])]
    rfl
  | cut l t w h =>
    have q1 : cutD [D.str "cut", .int l, .int t, .int w, .int h] (some (1 : Int)) (some 3) = [.int l, .int t] := by
      unfold cutD
      have a : HT.sIx 5 0 (some (1 : Int)) = 1 := HT.sIx_nat 5 0 1
      have b : HT.sIx 5 5 (some (3 : Int)) = 3 := HT.sIx_nat 5 5 3
      simp [a, b]
    have q2 : cutD [D.str "cut", .int l, .int t, .int w, .int h] (some (3 : Int)) none = [.int w, .int h] := by
      unfold cutD
      have a : HT.sIx 5 0 (some (3 : Int)) = 3 := HT.sIx_nat 5 0 3
      simp [a, HT.sIx_none]
    rw [sq_f (S1 := S) (by simp [x0, e1, Deed.isLight]), sq_f (S1 := S) (by simp [x0, e2', Deed.isCut])]
    have c1 : eComp [1] (iSeq (eSlc (eVar 0) (oSome (eC (.int 1))) (oSome (eC (.int 3))))) (gN 1) tTrue (eCall F_is_whole (aCons (eVar 1) (aCons (eC (.int 0)) (aCons (e2 subD (eC (.int 8)) (eC (.int 1))) aNil)))) [some (Deed.cut l t w h).d, none] S = .ok (.lst [.bl (isW 0 7 (.int l)), .bl (isW 0 7 (.int t))]) S := by
      rw [comp_seq (S1 := S) (ds := [.int l, .int t]) (φ := fun d => .bl (isW 0 7 d))]
      · rfl
      · left; simp [Deed.d, q1]
      · simp; unfold sz; omega
      · intro d hd
        have hT : Ty S d := by simp at hd; rcases hd with rfl | rfl <;> exact ty_int
        simp [wipeF, F_whole (S := S) (lo := 0) (hi := 7) hT]
    have c2 : eComp [1] (iSeq (eSlc (eVar 0) (oSome (eC (.int 3))) oNone)) (gN 1) tTrue (eCall F_is_whole (aCons (eVar 1) (aCons (eC (.int 1)) (aCons (eC (.int 8)) aNil)))) [some (Deed.cut l t w h).d, none] S = .ok (.lst [.bl (isW 1 8 (.int w)), .bl (isW 1 8 (.int h))]) S := by
      rw [comp_seq (S1 := S) (ds := [.int w, .int h]) (φ := fun d => .bl (isW 1 8 d))]
      · rfl
      · left; simp [Deed.d, q2]
      · simp; unfold sz; omega
      · intro d hd
        have hT : Ty S d := by simp at hd; rcases hd with rfl | rfl <;> exact ty_int
        simp [wipeF, F_whole (S := S) (lo := 1) (hi := 8) hT]
    have l5 : lenD [(Deed.cut l t w h).d] S = .ok (.int 5) S := rfl
    cases b1 : (isW 0 7 (.int l) && isW 0 7 (.int t)) with
    | true =>
      rw [sq_f (S1 := S) (by simp [l5, c1, all2]; simpa using b1), s_ret (S1 := S) (d := .bl (isW 1 8 (.int w) && isW 1 8 (.int h))) (by simp only [ap_call, ap_cons, c2, Res.bind_ok, ap_nil, all2])]
      simp only [body_ret, okDeed]
      congr 2
      simp [isW] at b1 ⊢
      rw [Bool.eq_iff_iff]
      simp
      omega
    | false =>
      rw [sq_t (S1 := S) (by simp [l5, c1, all2]; cases hA : isW 0 7 (.int l) <;> simp_all), sq_r (S1 := S) (d := .bl false) rfl]
      simp only [body_ret, okDeed]
      congr 2
      simp [isW] at b1
      symm
      rw [Bool.eq_false_iff]
      simp
      omega
  | turn => rw [sq_f (S1 := S) (by simp [x0, e1, Deed.isLight]), sq_t (S1 := S) (by simp [x0, e2', Deed.isCut]), sq_r (S1 := S) (d := .bl true) (by simp [Deed.d, in_plain ok_turn])]; rfl
  | mirror => rw [sq_f (S1 := S) (by simp [x0, e1, Deed.isLight]), sq_t (S1 := S) (by simp [x0, e2', Deed.isCut]), sq_r (S1 := S) (d := .bl true) (by simp [Deed.d, in_plain ok_mirror])]; rfl
  | invert => rw [sq_f (S1 := S) (by simp [x0, e1, Deed.isLight]), sq_t (S1 := S) (by simp [x0, e2', Deed.isCut]), sq_r (S1 := S) (d := .bl true) (by simp [Deed.d, in_plain ok_invert])]; rfl
  | halve => rw [sq_f (S1 := S) (by simp [x0, e1, Deed.isLight]), sq_t (S1 := S) (by simp [x0, e2', Deed.isCut]), sq_r (S1 := S) (d := .bl true) (by simp [Deed.d, in_plain ok_halve])]; rfl
theorem F_deeds {ds : List Deed} (h : ds.all okDeed = true) (hl : ds.length ≤ 1000) (S : Sto) : F_are_deeds [deedsD ds] S = .ok (.bl (decide (ds.length ≤ 20))) S := by
  have e : F_are_deeds [deedsD ds] S = bodyRes (b_are_deeds [some (deedsD ds), none] S) := rfl
  rw [e]
  unfold b_are_deeds
  have h1 : isiD [deedsD ds, .ty "tuple"] S = .ok (.bl true) S := by rw [isi_tup ty_tup]; rfl
  have c : eComp [1] (iSeq (eVar 0)) (gN 1) tTrue (eCall F_is_deed (aCons (eVar 1) aNil)) [some (deedsD ds), none] S = .ok (.lst ((ds.map Deed.d).map fun _ => .bl true)) S := by
    rw [comp_seq (S1 := S) (ds := ds.map Deed.d) (φ := fun _ => .bl true)]
    · left; simp
    · simp; unfold sz; omega
    · intro d hd
      obtain ⟨d0, hd0, rfl⟩ := List.mem_map.1 hd
      have := F_deed d0 S
      rw [List.all_eq_true.1 h d0 hd0] at this
      simp [wipeF, this]
  have a := allD_map (S := S) (fun _ => true) (ds.map Deed.d)
  have a' : ((ds.map Deed.d).all fun _ => true) = true := by simp
  rw [a'] at a
  by_cases k : ds.length ≤ 20
  · have k' : (ds.length : Int) ≤ 20 := by omega
    rw [s_ret (S1 := S) (d := .bl true)]
    · simp [k]
    · simp [h1, k', c]
      simpa using a
  · have k' : ¬ (ds.length : Int) ≤ 20 := by omega
    rw [s_ret (S1 := S) (d := .bl false)]
    · simp [k]
    · simp [h1, k']
theorem F_ndeeds {ds : List Deed} (h : ds.all okDeed = true) (hl : ds.length ≤ 20) (S : Sto) : F_need_deeds [deedsD ds] S = .ok .non S := by
  have e : F_need_deeds [deedsD ds] S = bodyRes (b_need_deeds [some (deedsD ds)] S) := rfl
  rw [e]
  unfold b_need_deeds
  simp [sIf, F_deeds h (by omega), hl, sNil]
/-! ### light -/
theorem max0_eq {i j : Int} {S : Sto} : maxD [.int i, .int j] S = .ok (.int (max i j)) S := by
  simp only [maxD, extD, maxL]
  simp
  omega
theorem min0_eq {i j : Int} {S : Sto} : minD [.int i, .int j] S = .ok (.int (min i j)) S := by
  simp only [minD, extD, minL]
  simp
  omega
/-! ### cells are whole numbers -/
def gridI (s : Nat × Nat) (g : Nat × Nat → Int) : D := gridD s fun p => .int (g p)
theorem G_lit {n : Nat} {g : Nat → Int} (d : Deed) (hn : n ≤ 1000) (S : Sto) : F_lit [.tup (tb n fun k => .int (g k)), d.d] S = .ok (.tup (tb n fun k => .int (lgt d (g k)))) S := by
  have e : F_lit [.tup (tb n fun k => .int (g k)), d.d] S = bodyRes (b_lit [some (.tup (tb n fun k => .int (g k))), some d.d, none] S) := rfl
  rw [e]
  unfold b_lit
  have x0 := d_ix0 d S
  have e1 := eqD_str (S := S) d.ok ok_invert (nm_invert d)
  have e2' := eqD_str (S := S) d.ok ok_light (nm_light d)
  cases d with
  | invert =>
    rw [sq_t (S1 := S) (by simp [x0, e1, Deed.isInvert]), sq_r (S1 := S) (d := .tup (tb n fun k => .int (9 - g k)))]
    · rfl
    · rw [eCall, aCons, comp_tb (S1 := S) (n := n) (g := fun k => .int (g k)) (φ := fun k => .int (9 - g k))]
      · simp
      · left; simp
      · unfold sz; omega
      · intro k hk; simp [wipeF]
  | light l =>
    have i1 : ixD (Deed.light l).d (.int 1) S = .ok (.int l) S := ix_tup (ds := [.str "light", .int l]) (j := 1) rfl (by simp)
    rw [sq_f (S1 := S) (by simp [x0, e1, Deed.isInvert]), sq_t (S1 := S) (by simp [x0, e2', Deed.isLight]), sq_r (S1 := S) (d := .tup (tb n fun k => .int (max 0 (min 9 (g k + l)))))]
    · rfl
    · rw [eCall, aCons, comp_tb (S1 := S) (n := n) (g := fun k => .int (g k)) (φ := fun k => .int (max 0 (min 9 (g k + l))))]
      · simp
      · left; simp
      · unfold sz; omega
      · intro k hk; simp [wipeF, i1, max0_eq, min0_eq]
  | _ =>
    rw [sq_f (S1 := S) (by simp [x0, e1, Deed.isInvert]), sq_f (S1 := S) (by simp [x0, e2', Deed.isLight]), s_ret (S1 := S) (d := .tup (tb n fun k => .int (g k))) (by simp)]
    rfl
def szs : List Deed → Nat × Nat → Option (Nat × Nat)
  | [], s => some s
  | d :: ds, s => (mvS d s).bind (szs ds)
def pos : List Deed → Nat × Nat → Nat × Nat → Nat × Nat
  | [], _, p => p
  | d :: ds, s, p => mvP d s (pos ds ((mvS d s).getD s) p)
def lgs : List Deed → Int → Int
  | [], x => x
  | d :: ds, x => lgs ds (lgt d x)
def Sz (s : Nat × Nat) : Prop := 0 < s.1 ∧ 0 < s.2 ∧ s.1 ≤ 8 ∧ s.2 ≤ 8
theorem Sz.mv {s s' : Nat × Nat} {d : Deed} (h : Sz s) (hd : okDeed d = true) (e : mvS d s = some s') : Sz s' := by
  unfold Sz at h ⊢
  cases d with
  | turn => cases e; simp; omega
  | mirror => cases e; exact h
  | invert => cases e; exact h
  | light l => cases e; exact h
  | halve => cases e; simp; omega
  | cut l t w k =>
    simp only [mvS] at e
    split at e
    · cases e
      simp [okDeed] at hd ⊢
      omega
    · cases e
theorem Sz.mvs : ∀ {ds : List Deed} {s s' : Nat × Nat}, Sz s → ds.all okDeed = true → szs ds s = some s' → Sz s'
  | [], s, s', h, hd, e => by cases e; exact h
  | d :: ds, s, s', h, hd, e => by
    simp only [szs] at e
    simp only [List.all_cons, Bool.and_eq_true] at hd
    cases e1 : mvS d s with
    | none => rw [e1] at e; cases e
    | some s1 => rw [e1] at e; exact Sz.mvs (h.mv hd.1 e1) hd.2 e
noncomputable abbrev lp_behind : MS := sSeq (sSet 0 (eCall F_moved (aCons (eVar 0) (aCons (eVar 2) aNil))))
    (sSet 0 (eCall tupleD (aCons (eComp [3] (iSeq (eVar 0)) (gN 3) tTrue (eCall F_lit (aCons (eVar 3) (aCons (eVar 2) aNil)))) aNil)))
theorem loop_behind {it : Its} (hi : it.guard = none) {Z : D} (S : Sto) : ∀ (ds : List Deed) (s : Nat × Nat) (g : Nat × Nat → Int) (o2 o3 : Option D), Sz s → ds.all okDeed = true →
    ∃ a b, loopF it (gN 2) lp_behind (ds.map Deed.d) [some (gridI s g), some Z, o2, o3] S = (match szs ds s with | none => .exc "NoCut" S | some s' => .nx [some (gridI s' fun p => lgs ds (g (pos ds s p))), some Z, a, b] S)
  | [], s, g, o2, o3, hs, hd => ⟨o2, o3, by simp only [List.map_nil, loopF, szs, lgs, pos, if_pos (show okG it S by unfold okG; rw [hi]; trivial)]⟩
  | d :: ds, s, g, o2, o3, hs, hd => by
    simp only [List.all_cons, Bool.and_eq_true] at hd
    have hm := G_moved (f := fun p => .int (g p)) d hs.2.1 (by unfold Sz at hs; omega) (by unfold Sz at hs; omega) S
    have ho : okG it S := by unfold okG; rw [hi]; trivial
    simp only [List.map_cons, loopF, if_pos ho, gN]
    cases e1 : mvS d s with
    | none =>
      rw [e1] at hm
      refine ⟨o2, o3, ?_⟩
      rw [show lp_behind _ S = .exc "NoCut" S from sq_setx (by simp [gridI, hm])]
      simp [szs, e1]
    | some s1 =>
      rw [e1] at hm
      have hs1 := hs.mv hd.1 e1
      obtain ⟨a, b, ih⟩ := loop_behind hi (Z := Z) S ds s1 (fun p => lgt d (g (mvP d s p))) (some d.d) o3 hs1 hd.2
      refine ⟨a, b, ?_⟩
      have hb : lp_behind [some (gridI s g), some Z, some d.d, o3] S = .nx [some (gridI s1 fun p => lgt d (g (mvP d s p))), some Z, some d.d, o3] S := by
        unfold lp_behind
        rw [sq_set (S1 := S) (d := gridD s1 fun p => .int (g (mvP d s p))) (by simp [gridI, hm])]
        simp only [sSet, List.set_cons_zero]
        rw [eCall, aCons, comp_tb (S1 := S) (n := s1.2) (g := fun j => .tup (tb s1.1 fun k => .int (g (mvP d s (j, k))))) (φ := fun j => .tup (tb s1.1 fun k => .int (lgt d (g (mvP d s (j, k))))))]
        · simp [gridI, gridD]
        · left; simp [gridD]
        · unfold sz; unfold Sz at hs1; omega
        · intro j hj
          have := G_lit (n := s1.1) (g := fun k => g (mvP d s (j, k))) d (by unfold Sz at hs1; omega) S
          simp [wipeF, this]
      simp only [List.set_cons_succ, List.set_cons_zero, hb]
      rw [ih]
      simp only [szs, e1, Option.bind_some, lgs, pos, Option.getD_some]
theorem G_behind {ds : List Deed} {s : Nat × Nat} {g : Nat × Nat → Int} (hs : Sz s) (hd : ds.all okDeed = true) (S : Sto) : F_behind [gridI s g, deedsD ds] S = (match szs ds s with | none => .exc "NoCut" S | some s' => .ok (gridI s' fun p => lgs ds (g (pos ds s p))) S) := by
  have e : F_behind [gridI s g, deedsD ds] S = bodyRes (b_behind [some (gridI s g), some (deedsD ds), none, none] S) := rfl
  rw [e]
  unfold b_behind
  obtain ⟨a, b, h⟩ := loop_behind (it := ⟨ds.map Deed.d, none⟩) rfl (Z := deedsD ds) S ds s g none none hs hd
  have h' : sFor (iSeq (eVar 1)) (gN 2) lp_behind [some (gridI s g), some (deedsD ds), none, none] S = _ := h
  cases e1 : szs ds s with
  | none =>
    rw [e1] at h'
    rw [sq_exc h']
    rfl
  | some s1 =>
    rw [e1] at h'
    rw [sq_nx h', s_ret (S1 := S) (d := gridI s1 fun p => lgs ds (g (pos ds s p))) rfl]
    rfl
def Cells (s : Nat × Nat) (g : Nat × Nat → Int) : Prop := ∀ j k, j < s.2 → k < s.1 → 0 ≤ g (j, k) ∧ g (j, k) ≤ 9
theorem isPic_grid {s : Nat × Nat} {g : Nat × Nat → Int} (hs : Sz s) (hc : Cells s g) : isPic (gridI s g) = true := by
  unfold Sz at hs
  obtain ⟨w, h⟩ := s
  simp only at hs
  obtain ⟨h', rfl⟩ : ∃ h', h = h' + 1 := ⟨h - 1, by omega⟩
  have hd : (tb (h' + 1) fun j => D.tup (tb w fun k => D.int (g (j, k)))).headD .non = .tup (tb w fun k => D.int (g (0, k))) := by
    simp [tb, List.range_succ_eq_map]
  simp only [gridI, gridD, isPic, tb_len, hd]
  simp only [tb_filter_all, rowOk, lenOf, tb_len, cellsOk, isW]
  simp
  refine ⟨⟨by omega, fun _ => by omega⟩, fun j hj => fun k hk => ?_⟩
  exact hc j k hj hk
theorem ty3_grid {S : Sto} {s : Nat × Nat} {g : Nat × Nat → Int} : Ty3 S (gridI s g) := by
  refine ⟨ty_tup, fun rows e r hr => ?_⟩
  cases e
  obtain ⟨j, hj, rfl⟩ := List.mem_map.1 hr
  refine ⟨ty_tup, fun cs e c hc => ?_⟩
  cases e
  obtain ⟨k, hk, rfl⟩ := List.mem_map.1 hc
  exact ty_int
theorem F_npic {x : D} {S : Sto} (h : Ty3 S x) : F_need_picture [x] S = if isPic x then .ok .non S else .exc "NoPicture" S := by
  have e : F_need_picture [x] S = bodyRes (b_need_picture [some x] S) := rfl
  rw [e]
  unfold b_need_picture
  have := F_pic h
  cases e1 : isPic x <;> simp [sIf, this, e1, sNil, sRaise]
theorem G_done {ds : List Deed} {s : Nat × Nat} {g : Nat × Nat → Int} (hs : Sz s) (hc : Cells s g) (hd : ds.all okDeed = true) (hl : ds.length ≤ 20) (S : Sto) : F_done [gridI s g, deedsD ds] S = (match szs ds s with | none => .exc "NoCut" S | some s' => .ok (gridI s' fun p => lgs ds (g (pos ds s p))) S) := by
  have e : F_done [gridI s g, deedsD ds] S = bodyRes (b_done [some (gridI s g), some (deedsD ds)] S) := rfl
  rw [e]
  unfold b_done
  have h1 := F_npic (S := S) (ty3_grid (s := s) (g := g))
  rw [isPic_grid hs hc, if_pos rfl] at h1
  have h2 := F_ndeeds hd hl S
  have h3 := G_behind (g := g) hs hd S
  rw [sq_ex (S1 := S) (d := .non) (by simp [h1]), sq_ex (S1 := S) (d := .non) (by simp [h2])]
  cases e1 : szs ds s with
  | none => rw [e1] at h3; rw [s_retx (by simp; exact h3)]; rfl
  | some s1 => rw [e1] at h3; rw [s_ret (by simp; exact h3)]; rfl
end Py
set_option maxRecDepth 100000
set_option maxHeartbeats 1000000
namespace Py
open PySem PySem.Spec PyProof.Rows L2
theorem irngZ {f : MA} {fr : Fr} {S S1 : Sto} {z : Int} (hf : f fr S = .ok [.int z] S1) (h0 : 0 ≤ z) (hl : z ≤ 1000000) : iRng1' f fr S = .ok ⟨rngD 0 z.toNat, none⟩ S1 := by
  simp only [iRng1', hf, Res.bind_ok]
  rw [if_pos ⟨by omega, by omega⟩]
theorem castM {n : Nat} (h : n ≤ 1000000) : (n : Int) ≤ 1000000 := by omega
theorem irng {f : MA} {fr : Fr} {S S1 : Sto} {n : Nat} (hf : f fr S = .ok [.int (n : Int)] S1) (hl : n ≤ 1000000) : iRng1' f fr S = .ok ⟨rngD 0 n, none⟩ S1 := by
  have := irngZ hf (Int.natCast_nonneg n) (castM hl)
  rw [Int.toNat_natCast] at this
  exact this
@[simp] theorem two_sz : 2 ≤ sz := by unfold sz; omega
theorem comp_rst {vs : List Nat} {i : Nat} {f : MA} {e : ME} {fr : Fr} {S : Sto} {n : Nat} (φ : Nat → D) (σ : Nat → Sto) (hf : f fr S = .ok [.int (n : Int)] (σ 0)) (hl : n ≤ 1000000) (h : ∀ k : Nat, k < n → e ((wipeF fr vs).set i (some (.int k))) (σ k) = .ok (φ k) (σ (k + 1))) :
    eComp vs (iRng1' f) (gN i) tTrue e fr S = .ok (.lst (tb n φ)) (σ n) := by
  have hi : iRng1' f fr S = .ok ⟨rngD 0 n, none⟩ (σ 0) := irng hf hl
  have := eComp_st (vs := vs) (g := gN i) (c := tTrue) (e := e) hi φ σ rfl (by rw [rngD_len]; unfold sz; omega) (fun j d hj => ⟨trivial, _, rfl, rfl, ?_⟩) trivial
  · rw [this]; simp [rngD_len, tb]
  · have hjn : j < n := by have := (List.getElem?_eq_some_iff.1 hj).1; rw [rngD_len] at this; exact this
    rw [rngD_get hjn] at hj
    cases hj
    have := h j hjn
    simpa using this
/-! ### map_of, size -/
def ptD (p : Nat × Nat) : D := .tup [.int p.1, .int p.2]
noncomputable abbrev lp_map : MS := sSet 3 (eCall F_moved (aCons (eVar 3) (aCons (eVar 4) aNil)))
theorem loop_map {it : Its} (hi : it.guard = none) {x0 x1 x2 : Option D} (S : Sto) : ∀ (ds : List Deed) (s : Nat × Nat) (f : Nat × Nat → D) (o4 o5 o6 : Option D), Sz s → ds.all okDeed = true →
    ∃ a, loopF it (gN 4) lp_map (ds.map Deed.d) [x0, x1, x2, some (gridD s f), o4, o5, o6] S = (match szs ds s with | none => .exc "NoCut" S | some s' => .nx [x0, x1, x2, some (gridD s' fun p => f (pos ds s p)), a, o5, o6] S)
  | [], s, f, o4, o5, o6, hs, hd => ⟨o4, by simp only [List.map_nil, loopF, szs, pos, if_pos (show okG it S by unfold okG; rw [hi]; trivial)]⟩
  | d :: ds, s, f, o4, o5, o6, hs, hd => by
    simp only [List.all_cons, Bool.and_eq_true] at hd
    have hm := G_moved (f := f) d hs.2.1 (by unfold Sz at hs; omega) (by unfold Sz at hs; omega) S
    have ho : okG it S := by unfold okG; rw [hi]; trivial
    simp only [List.map_cons, loopF, if_pos ho, gN]
    cases e1 : mvS d s with
    | none =>
      rw [e1] at hm
      refine ⟨o4, ?_⟩
      simp [sSet, hm, szs, e1]
    | some s1 =>
      rw [e1] at hm
      obtain ⟨a, ih⟩ := loop_map hi (x0 := x0) (x1 := x1) (x2 := x2) S ds s1 (fun p => f (mvP d s p)) (some d.d) o5 o6 (hs.mv hd.1 e1) hd.2
      refine ⟨a, ?_⟩
      simp [sSet, hm, szs, e1, pos, ih]
theorem G_map_of {ds : List Deed} {s : Nat × Nat} (hs : Sz s) (hd : ds.all okDeed = true) (S : Sto) : F_map_of [.int s.1, .int s.2, deedsD ds] S = (match szs ds s with | none => .exc "NoCut" S | some s' => .ok (gridD s' fun p => ptD (pos ds s p)) S) := by
  have e : F_map_of [.int s.1, .int s.2, deedsD ds] S = bodyRes (b_map_of [some (.int s.1), some (.int s.2), some (deedsD ds), none, none, none, none] S) := rfl
  rw [e]
  unfold b_map_of
  have hc : eCall tupleD (aCons (eComp [5] (iRng1' (aCons (eVar 1) aNil)) (gN 5) tTrue (eCall tupleD (aCons (eComp [6] (iRng1' (aCons (eVar 0) aNil)) (gN 6) tTrue (eTup (aCons (eVar 5) (aCons (eVar 6) aNil)))) aNil))) aNil) [some (.int s.1), some (.int s.2), some (deedsD ds), none, none, none, none] S = .ok (gridD s ptD) S := by
    unfold Sz at hs
    rw [eCall, aCons, comp_rt (S1 := S) (n := s.2) (φ := fun j => .tup (tb s.1 fun k => ptD (j, k)))]
    · simp [gridD]
    · simp
    · omega
    · intro j hj
      rw [eCall, aCons, comp_rt (S1 := S) (n := s.1) (φ := fun k => ptD (j, k))]
      · simp
      · simp [wipeF]
      · omega
      · intro k hk
        simp [wipeF, ptD]
  rw [sq_set hc]
  obtain ⟨a, h⟩ := loop_map (it := ⟨ds.map Deed.d, none⟩) rfl (x0 := some (.int s.1)) (x1 := some (.int s.2)) (x2 := some (deedsD ds)) S ds s ptD none none none hs hd
  have h' : sFor (iSeq (eVar 2)) (gN 4) lp_map [some (.int s.1), some (.int s.2), some (deedsD ds), some (gridD s ptD), none, none, none] S = _ := h
  simp only [List.set_cons_succ, List.set_cons_zero]
  cases e1 : szs ds s with
  | none => rw [e1] at h'; rw [sq_exc h']; rfl
  | some s1 =>
    rw [e1] at h'
    rw [sq_nx h', s_ret (S1 := S) (d := gridD s1 fun p => ptD (pos ds s p)) rfl]
    rfl
theorem F_nsize {x y : D} {S : Sto} (hx : Ty S x) (hy : Ty S y) : F_need_size [x, y] S = if isW 1 8 x && isW 1 8 y then .ok .non S else .exc "NoSize" S := by
  have e : F_need_size [x, y] S = bodyRes (b_need_size [some x, some y] S) := rfl
  rw [e]
  unfold b_need_size
  have h1 := F_whole (lo := 1) (hi := 8) hx
  have h2 := F_whole (lo := 1) (hi := 8) hy
  cases e1 : isW 1 8 x <;> cases e2 : isW 1 8 y <;> simp [sIf, h1, h2, e1, e2, sNil, sRaise]
theorem G_size {ds : List Deed} {s : Nat × Nat} (hs : Sz s) (hd : ds.all okDeed = true) (hl : ds.length ≤ 20) (S : Sto) : F_size [.int s.1, .int s.2, deedsD ds] S = (match szs ds s with | none => .exc "NoCut" S | some s' => .ok (.tup [.int s'.1, .int s'.2]) S) := by
  have e : F_size [.int s.1, .int s.2, deedsD ds] S = bodyRes (b_size [some (.int s.1), some (.int s.2), some (deedsD ds), none] S) := rfl
  rw [e]
  unfold b_size
  have h1 := F_nsize (S := S) (x := .int s.1) (y := .int s.2) ty_int ty_int
  have w1 : isW 1 8 (.int s.1) = true := by unfold Sz at hs; simp [isW]; omega
  have w2 : isW 1 8 (.int s.2) = true := by unfold Sz at hs; simp [isW]; omega
  rw [w1, w2] at h1
  have h2 := F_ndeeds hd hl S
  have h3 := G_map_of hs hd S
  simp at h1
  rw [sq_ex (S1 := S) (d := .non) (by simp [h1]), sq_ex (S1 := S) (d := .non) (by simp [h2])]
  cases e1 : szs ds s with
  | none =>
    rw [e1] at h3
    rw [sq_setx (by simp; exact h3)]
    rfl
  | some s1 =>
    rw [e1] at h3
    have hs1 := hs.mvs hd e1
    have r0 := g_row (S := S) (s := s1) (f := fun p => ptD (pos ds s p)) (i := 0) (j := 0) rfl hs1.2.1
    rw [sq_set (by simp; exact h3), s_ret (S1 := S) (d := .tup [.int s1.1, .int s1.2]) (by simp [r0, g_len])]
    rfl
/-! ### leaving a def -/
theorem demL_same {f : D → Option D} : ∀ {ds : List D}, (∀ d ∈ ds, f d = some d) → demL f ds = some ds
  | [], h => rfl
  | d :: ds, h => by simp only [demL, h d (List.mem_cons_self ..), demL_same fun d' hd => h d' (List.mem_cons_of_mem _ hd)]
theorem lowerL_mem {k : Nat} : ∀ {ds : List D}, lowerL k ds = true → ∀ d ∈ ds, d.lower k = true
  | d :: ds, h, d', hd => by
    simp only [lowerL, Bool.and_eq_true] at h
    rcases List.mem_cons.1 hd with rfl | hd
    · exact h.1
    · exact lowerL_mem h.2 d' hd
theorem lowerL_of {k : Nat} : ∀ {ds : List D}, (∀ d ∈ ds, d.lower k = true) → lowerL k ds = true
  | [], h => rfl
  | d :: ds, h => by simp only [lowerL, h d (List.mem_cons_self ..), lowerL_of fun d' hd => h d' (List.mem_cons_of_mem _ hd), Bool.and_self]
theorem dem_lower {k : Nat} {S : Sto} : ∀ (f : Nat) (d : D), d.lower k = true → dem f k S d = some d
  | 0, d, h => by simp only [dem, h, if_true]
  | f + 1, d, h => by
    cases d with
    | tup ds =>
      simp only [D.lower] at h
      simp only [dem, demL_same fun d hd => dem_lower f d (lowerL_mem h d hd), Option.map_some]
    | lst ds =>
      simp only [D.lower] at h
      simp only [dem, demL_same fun d hd => dem_lower f d (lowerL_mem h d hd), Option.map_some]
    | ref n =>
      simp only [D.lower, decide_eq_true_eq] at h
      simp only [dem, h, if_true]
    | _ => simp only [dem, h, if_true]
theorem lower_deed (k : Nat) (d : Deed) : d.d.lower k = true := by cases d <;> simp [Deed.d, D.lower, lowerL]
theorem lower_deeds (k : Nat) (ds : List Deed) : (deedsD ds).lower k = true := by
  simp only [D.lower]
  exact lowerL_of fun d hd => by obtain ⟨d0, _, rfl⟩ := List.mem_map.1 hd; exact lower_deed k d0
theorem kept_Tn (n n' : Nat) (rest extra : Sto) : KeptS (Tn n rest) (Tn n' (rest ++ extra)) := by
  refine ⟨by simp, fun i o hi h => ?_⟩
  cases i with
  | zero =>
    right
    cases h
    simp only [O.lower]
    exact lowerL_of fun d hd => by rw [List.eq_of_mem_replicate hd]; rfl
  | succ i =>
    left
    simp at hi
    simp [List.getElem?_append_left hi] at h ⊢
    exact h
theorem take_Tn (n n' : Nat) (rest extra : Sto) : (Tn n' (rest ++ extra)).take (Tn n rest).length = Tn n' rest := by simp
theorem leave_Tn {n n' : Nat} {rest extra : Sto} {d : D} (h : d.lower (rest.length + 1) = true) : leaveR (Tn n rest) (.ok d (Tn n' (rest ++ extra))) = .ok d (Tn n' rest) := by
  have := dem_lower (S := Tn n' (rest ++ extra)) 8 d h
  simp only [leaveR, if_pos (kept_Tn n n' rest extra), take_Tn]
  rw [show (Tn n rest).length = rest.length + 1 by simp, this]
/-! ### the law's own draws -/
theorem F_drawN (ns : List Int) (n : Nat) {many : Nat} (h : 0 < many) (hn : n < 900000) (rest : Sto) : ∃ k : Nat, k < many ∧ F_law_draw [scr ns, .ref 0, .int many] (Tn n rest) = .ok (.int k) (Tn (n + 1) rest) := by
  have hr := mixV_range ns (n + 1) (many := (many : Int)) (by omega)
  refine ⟨(mixV ns (n + 1) many).toNat, by omega, ?_⟩
  rw [F_draw ns n (by omega) hn]
  congr 2
  omega
theorem G_picture (ns : List Int) (n most : Nat) (h0 : 0 < most) (h8 : most ≤ 8) (hn : n < 800000) (rest : Sto) : ∃ s g n', Sz s ∧ s.1 ≤ most ∧ s.2 ≤ most ∧ Cells s g ∧ n' ≤ n + 68 ∧ F_law_picture [scr ns, .ref 0, .int most] (Tn n rest) = .ok (gridI s g) (Tn n' rest) := by
  have e : F_law_picture [scr ns, .ref 0, .int most] (Tn n rest) = bodyRes (b_law_picture [some (scr ns), some (.ref 0), some (.int most), none, none, none, none, none] (Tn n rest)) := rfl
  obtain ⟨k1, hk1, d1⟩ := F_drawN ns n h0 (by omega) rest
  obtain ⟨k2, hk2, d2⟩ := F_drawN ns (n + 1) h0 (by omega) rest
  obtain ⟨j, hj, d3⟩ := F_pick ns (n + 2) (by omega) rest (ds := [.int (1 + (k1 : Int)), .int (1 + (k2 : Int))]) (by simp)
  obtain ⟨j', hj', d4⟩ := F_pick ns (n + 3) (by omega) rest (ds := [.int 2, .int 3, .int 10]) (by simp)
  obtain ⟨few, hf1, hf2, hf⟩ : ∃ few : Int, 0 < few ∧ few ≤ 10 ∧ [D.int 2, .int 3, .int 10][j'] = .int few := by
    simp at hj'
    rcases j' with _ | _ | _ | j'
    · exact ⟨2, by decide, by decide, rfl⟩
    · exact ⟨3, by decide, by decide, rfl⟩
    · exact ⟨10, by decide, by decide, rfl⟩
    · omega
  obtain ⟨hh, hh1, hh2, hhe⟩ : ∃ hh : Nat, 0 < hh ∧ hh ≤ most ∧ [D.int (1 + (k1 : Int)), .int (1 + (k2 : Int))][j] = .int hh := by
    simp at hj
    rcases j with _ | _ | j
    · exact ⟨1 + k1, by omega, by omega, by simp⟩
    · exact ⟨1 + k2, by omega, by omega, by simp⟩
    · omega
  rw [hf] at d4
  rw [hhe] at d3
  have hcell : ∀ (j k : Nat), 0 ≤ mixV ns (n + 4 + j * (1 + k1) + k + 1) few ∧ mixV ns (n + 4 + j * (1 + k1) + k + 1) few < few := fun j k => mixV_range ns _ hf1
  refine ⟨(1 + k1, hh), fun p => mixV ns (n + 4 + p.1 * (1 + k1) + p.2 + 1) few, n + 4 + hh * (1 + k1), ⟨by simp; omega, hh1, by simp; omega, by simp; omega⟩, by simp; omega, hh2, fun j k hj hk => ⟨(hcell j k).1, by have := (hcell j k).2; simp; omega⟩, ?_, ?_⟩
  · have : hh * (1 + k1) ≤ 8 * 8 := Nat.mul_le_mul (by omega) (by omega)
    omega
  · rw [e]
    unfold b_law_picture
    rw [sq_set (S1 := Tn (n + 1) rest) (d := .int (1 + (k1 : Int))) (by simp; simp [d1])]
    rw [sq_set (S1 := Tn (n + 3) rest) (d := .int hh) (by simp [d2]; exact d3)]
    rw [sq_set (S1 := Tn (n + 4) rest) (d := .int few) (by simp; exact d4)]
    have hb : hh * (1 + k1) ≤ 8 * 8 := Nat.mul_le_mul (by omega) (by omega)
    rw [s_ret (S1 := Tn (n + 4 + hh * (1 + k1)) rest) (d := gridI (1 + k1, hh) fun p => mixV ns (n + 4 + p.1 * (1 + k1) + p.2 + 1) few)]
    · rfl
    · rw [eCall, aCons, comp_rst (n := hh) (fun j => .tup (tb (1 + k1) fun k => .int (mixV ns (n + 4 + j * (1 + k1) + k + 1) few))) (fun j => Tn (n + 4 + j * (1 + k1)) rest) (by simp) (by omega)]
      · simp [gridI, gridD]
      · intro j hjn
        have hjb : (j + 1) * (1 + k1) ≤ 8 * 8 := Nat.mul_le_mul (by omega) (by omega)
        have hje : (j + 1) * (1 + k1) = j * (1 + k1) + (1 + k1) := by rw [Nat.add_mul, Nat.one_mul]
        rw [eCall, aCons, comp_rst (n := 1 + k1) (fun k => .int (mixV ns (n + 4 + j * (1 + k1) + k + 1) few)) (fun k => Tn (n + 4 + j * (1 + k1) + k) rest) (by simp [wipeF]) (by omega)]
        · simp [hje, Nat.add_assoc]
        · intro k hkn
          have := F_draw ns (n + 4 + j * (1 + k1) + k) hf1 (by omega) rest
          simp [wipeF]
          exact this
end Py
set_option maxRecDepth 100000
set_option maxHeartbeats 1000000
namespace Py
open PySem PySem.Spec PyProof.Rows L2
/-! ### the law's deeds -/
@[simp] theorem three_sz : 3 ≤ sz := by unfold sz; omega
@[simp] theorem five_sz : 5 ≤ sz := by unfold sz; omega
@[simp] theorem one_sz : 1 ≤ sz := by unfold sz; omega
theorem intD_bl (b : Bool) (S : Sto) : intD [.bl b] S = .ok (.int (if b then 1 else 0)) S := id rfl
theorem mul_small {i j : Int} {S : Sto} (h : smallI i ∨ smallI j) : mulD (.int i) (.int j) S = .ok (.int (i * j)) S := by simp [mulD, h]
theorem small_of {i : Int} (h0 : -1000000000 ≤ i) (h : i ≤ 1000000000) : smallI i := by unfold smallI; omega
theorem cut_part {w l b : Nat} (hl : l < max 1 (w - 1)) (hw : 0 < w) (hb : b < 2) : ∃ a : Nat, 0 < a ∧ l + a ≤ w ∧ (w : Int) - l - (b : Int) * (if decide ((1 : Int) < (w : Int) - l) then 1 else 0) = (a : Int) := by
  by_cases c : (1 : Int) < (w : Int) - l
  · refine ⟨w - l - b, by omega, by omega, ?_⟩
    simp [c]
    omega
  · refine ⟨w - l, by omega, by omega, ?_⟩
    simp [c]
    omega
theorem G_deed (ns : List Int) (n : Nat) {s : Nat × Nat} (hs : Sz s) (hn : n < 800000) (rest : Sto) : ∃ d s' n', okDeed d = true ∧ mvS d s = some s' ∧ n' ≤ n + 5 ∧ F_law_deed [scr ns, .ref 0, .int s.1, .int s.2] (Tn n rest) = .ok d.d (Tn n' rest) := by
  have e : F_law_deed [scr ns, .ref 0, .int s.1, .int s.2] (Tn n rest) = bodyRes (b_law_deed [some (scr ns), some (.ref 0), some (.int s.1), some (.int s.2), none, none, none, none, none] (Tn n rest)) := rfl
  rw [e]
  unfold b_law_deed
  obtain ⟨w, h⟩ := s
  obtain ⟨k, hk, d0⟩ := F_drawN ns n (many := 9) (by decide) (by omega) rest
  have d0' : F_law_draw [scr ns, .ref 0, .int 9] (Tn n rest) = .ok (.int k) (Tn (n + 1) rest) := d0
  rw [sq_set (S1 := Tn (n + 1) rest) (d := .int k) (by simp; exact d0')]
  simp only [List.set_cons_succ, List.set_cons_zero]
  by_cases c1 : k < 2
  · refine ⟨.turn, _, n + 1, rfl, rfl, by omega, ?_⟩
    rw [sq_t (S1 := Tn (n + 1) rest) (by simp; omega), sq_r (S1 := Tn (n + 1) rest) (d := Deed.turn.d) (by simp [Deed.d])]
    rfl
  rw [sq_f (S1 := Tn (n + 1) rest) (by simp; omega)]
  by_cases c2 : k < 4
  · refine ⟨.mirror, _, n + 1, rfl, rfl, by omega, ?_⟩
    rw [sq_t (S1 := Tn (n + 1) rest) (by simp; omega), sq_r (S1 := Tn (n + 1) rest) (d := Deed.mirror.d) (by simp [Deed.d])]
    rfl
  rw [sq_f (S1 := Tn (n + 1) rest) (by simp; omega)]
  by_cases c3 : k = 4
  · refine ⟨.invert, _, n + 1, rfl, rfl, by omega, ?_⟩
    rw [sq_t (S1 := Tn (n + 1) rest) (by simp; omega), sq_r (S1 := Tn (n + 1) rest) (d := Deed.invert.d) (by simp [Deed.d])]
    rfl
  rw [sq_f (S1 := Tn (n + 1) rest) (by simp; omega)]
  by_cases c4 : k = 5
  · obtain ⟨l, hl, d1⟩ := F_drawN ns (n + 1) (many := 19) (by decide) (by omega) rest
    have d1' : F_law_draw [scr ns, .ref 0, .int 19] (Tn (n + 1) rest) = .ok (.int l) (Tn (n + 2) rest) := d1
    refine ⟨.light (l - 9), _, n + 2, by simp [okDeed]; omega, rfl, by omega, ?_⟩
    rw [sq_t (S1 := Tn (n + 1) rest) (by simp; omega), sq_r (S1 := Tn (n + 2) rest) (d := (Deed.light ((l : Int) - 9)).d) (by simp [d1', Deed.d])]
    rfl
  rw [sq_f (S1 := Tn (n + 1) rest) (by simp; omega)]
  unfold Sz at hs
  simp only at hs
  by_cases c5 : k = 6 ∧ max w h > 2
  · have m2 : (2 : Int) < max (w : Int) (h : Int) := by omega
    refine ⟨.halve, _, n + 1, rfl, rfl, by omega, ?_⟩
    rw [sq_t (S1 := Tn (n + 1) rest) (by simp [c5.1, max0_eq, m2]), sq_r (S1 := Tn (n + 1) rest) (d := Deed.halve.d) (by simp [Deed.d])]
    rfl
  have f5 : sIf (tAndM (tVal (e2 (eqD false) (eVar 4) (eC (.int 6)))) (tVal (e2 gtD (eCall maxD (aCons (eVar 2) (aCons (eVar 3) aNil))) (eC (.int 2))))) (sRet (eTup (aCons (eC (.str "halve")) aNil))) sNil [some (scr ns), some (.ref 0), some (.int w), some (.int h), some (.int k), none, none, none, none] (Tn (n + 1) rest) = .nx [some (scr ns), some (.ref 0), some (.int w), some (.int h), some (.int k), none, none, none, none] (Tn (n + 1) rest) := by
    by_cases c6 : k = 6
    · have m2 : ¬ (2 : Int) < max (w : Int) (h : Int) := by omega
      simp [sIf, c6, max0_eq, m2, sNil]
    · have c6' : ¬ ((k : Int) = 6) := by omega
      simp [sIf, c6', sNil]
  rw [sq_nx f5]
  have hx : max (1 : Int) ((w : Int) - 1) = ((max 1 (w - 1) : Nat) : Int) := by omega
  have hy : max (1 : Int) ((h : Int) - 1) = ((max 1 (h - 1) : Nat) : Int) := by omega
  obtain ⟨l, hl, d1⟩ := F_drawN ns (n + 1) (many := max 1 (w - 1)) (by omega) (by omega) rest
  obtain ⟨t, ht, d2⟩ := F_drawN ns (n + 2) (many := max 1 (h - 1)) (by omega) (by omega) rest
  obtain ⟨b1, hb1, d3⟩ := F_drawN ns (n + 3) (many := 2) (by omega) (by omega) rest
  obtain ⟨b2, hb2, d4⟩ := F_drawN ns (n + 4) (many := 2) (by omega) (by omega) rest
  rw [sq_set (S1 := Tn (n + 2) rest) (d := .int l) (by simp [max0_eq]; rw [hx]; exact d1)]
  rw [sq_set (S1 := Tn (n + 3) rest) (d := .int t) (by simp [max0_eq]; rw [hy]; exact d2)]
  obtain ⟨a, ha0, ha1, ha⟩ := cut_part hl hs.1 hb1
  obtain ⟨b, hb0, hb', hb⟩ := cut_part ht hs.2.1 hb2
  have d3' : F_law_draw [scr ns, .ref 0, .int 2] (Tn (n + 3) rest) = .ok (.int b1) (Tn (n + 4) rest) := d3
  have d4' : F_law_draw [scr ns, .ref 0, .int 2] (Tn (n + 4) rest) = .ok (.int b2) (Tn (n + 5) rest) := d4
  rw [sq_set (S1 := Tn (n + 4) rest) (d := .int a) (by
    simp only [ap_2, ap_var, List.set_cons_succ, List.set_cons_zero, List.getElem?_cons_succ, List.getElem?_cons_zero, ap_call, ap_cons, ap_c, ap_nil, Res.bind_ok, ap_sub, d3', ap_gt, intD_bl]
    rw [mul_small (.inl (small_of (by omega) (by omega)))]
    simp only [Res.bind_ok, ap_sub, ha])]
  rw [sq_set (S1 := Tn (n + 5) rest) (d := .int b) (by
    simp only [ap_2, ap_var, List.set_cons_succ, List.set_cons_zero, List.getElem?_cons_succ, List.getElem?_cons_zero, ap_call, ap_cons, ap_c, ap_nil, Res.bind_ok, ap_sub, d4', ap_gt, intD_bl]
    rw [mul_small (.inl (small_of (by omega) (by omega)))]
    simp only [Res.bind_ok, ap_sub, hb])]
  refine ⟨.cut l t a b, (a, b), n + 5, by simp [okDeed]; omega, by simp [mvS, ha1, hb'], by omega, ?_⟩
  rw [s_ret (S1 := Tn (n + 5) rest) (d := (Deed.cut l t a b).d) (by simp [Deed.d])]
  rfl
theorem fdiv_eq {i j : Int} {S : Sto} (h0 : 0 < j) (h1 : j < 1000) : fdivD (.int i) (.int j) S = .ok (.int (i / j)) S := by
  simp only [fdivD]
  rw [if_pos ⟨h0, by omega⟩]
theorem G_behind_size {d : Deed} {s s' : Nat × Nat} (h : mvS d s = some s') (S : Sto) : F_law_behind_size [.int s.1, .int s.2, d.d] S = .ok (.tup [.int s'.1, .int s'.2]) S := by
  have e : F_law_behind_size [.int s.1, .int s.2, d.d] S = bodyRes (b_law_behind_size [some (.int s.1), some (.int s.2), some d.d] S) := rfl
  rw [e]
  unfold b_law_behind_size
  have x0 := d_ix0 d S
  have e1 := eqD_str (S := S) d.ok ok_turn (nm_turn d)
  have e3 := eqD_str (S := S) d.ok ok_halve (nm_halve d)
  have e4 := eqD_str (S := S) d.ok ok_cut (nm_cut d)
  cases d with
  | turn =>
    cases h
    rw [sq_t (S1 := S) (by simp [x0, e1, Deed.isTurn]), sq_r (S1 := S) (d := .tup [.int s.2, .int s.1]) (by simp)]
    rfl
  | halve =>
    cases h
    rw [sq_f (S1 := S) (by simp [x0, e1, Deed.isTurn]), sq_t (S1 := S) (by simp [x0, e3, Deed.isHalve]), sq_r (S1 := S) (d := .tup [.int ((s.1 + 1 : Int) / 2), .int ((s.2 + 1 : Int) / 2)]) (by simp [fdiv_eq])]
    simp
  | cut l t a b =>
    simp only [mvS] at h
    split at h
    · cases h
      have i3 : ixD (Deed.cut l t a b).d (.int 3) S = .ok (.int a) S := ix_tup (ds := [.str "cut", .int l, .int t, .int a, .int b]) (j := 3) rfl (by simp)
      have i4 : ixD (Deed.cut l t a b).d (.int 4) S = .ok (.int b) S := ix_tup (ds := [.str "cut", .int l, .int t, .int a, .int b]) (j := 4) rfl (by simp)
      rw [sq_f (S1 := S) (by simp [x0, e1, Deed.isTurn]), sq_f (S1 := S) (by simp [x0, e3, Deed.isHalve]), sq_t (S1 := S) (by simp [x0, e4, Deed.isCut]), sq_r (S1 := S) (d := .tup [.int a, .int b]) (by simp [i3, i4])]
      rfl
    · cases h
  | _ =>
    cases h
    rw [sq_f (S1 := S) (by simp [x0, e1, Deed.isTurn]), sq_f (S1 := S) (by simp [x0, e3, Deed.isHalve]), sq_f (S1 := S) (by simp [x0, e4, Deed.isCut]), s_ret (S1 := S) (d := .tup [.int s.1, .int s.2]) (by simp)]
    rfl
end Py
set_option maxRecDepth 100000
set_option maxHeartbeats 1000000
namespace Py
open PySem PySem.Spec PyProof.Rows L2
@[simp] theorem ap_methL (op : D → List D → Sto → Res D) (f : ME) (g : MA) (fr : Fr) (S : Sto) : eMethL op f g fr S = (f fr S).bind fun d S => match lstOf S d with | none => .bad | some _ => (g fr S).bind fun xs S => op d xs S := id rfl
theorem top_get (n : Nat) (rest : Sto) (o : O) : (Tn n (rest ++ [o]))[rest.length + 1]? = some o := by simp
theorem top_lst (n : Nat) (rest : Sto) (acc : List D) : lstOf (Tn n (rest ++ [.lst acc])) (.ref (rest.length + 1)) = some acc := by
  simp only [lstOf, top_get]
theorem top_seq (n : Nat) (rest : Sto) (acc : List D) : seqOf (Tn n (rest ++ [.lst acc])) (.ref (rest.length + 1)) = some acc := top_lst n rest acc
theorem top_app (n : Nat) (rest : Sto) (acc : List D) (x : D) (h : acc.length < 1000000) : appendD (.ref (rest.length + 1)) [x] (Tn n (rest ++ [.lst acc])) = .ok .non (Tn n (rest ++ [.lst (acc ++ [x])])) := by
  have e : (Tn n (rest ++ [.lst acc])).set (rest.length + 1) (.lst (acc ++ [x])) = Tn n (rest ++ [.lst (acc ++ [x])]) := by simp
  have h' : acc.length < sz := h
  simp only [appendD, top_get, h', if_true, e]
noncomputable abbrev lp_deeds : MS := (sSeq (sSet 7 (eCall F_law_deed (aCons (eVar 0) (aCons (eVar 1) (aCons (eVar 2) (aCons (eVar 3) aNil))))))
    (sSeq (sAsg (gT 2 (gsC (gN 2) (gsC (gN 3) gs0))) (eCall F_law_behind_size (aCons (eVar 2) (aCons (eVar 3) (aCons (eVar 7) aNil)))))
    (sExpr (eMethL appendD (eVar 5) (aCons (eVar 7) aNil)))))
theorem szs_app : ∀ (as bs : List Deed) (s : Nat × Nat), szs (as ++ bs) s = (szs as s).bind (szs bs)
  | [], bs, s => rfl
  | a :: as, bs, s => by
    simp only [List.cons_append, szs]
    cases mvS a s with
    | none => rfl
    | some s1 => exact szs_app as bs s1
theorem loop_deeds {it : Its} (hi : it.guard = none) (ns : List Int) {x4 : Option D} (rest : Sto) : ∀ (xs : List D) (n : Nat) (s : Nat × Nat) (acc : List D) (o6 o7 : Option D), Sz s → n + 5 * xs.length < 800000 → acc.length + xs.length < 1000000 →
    ∃ ds n' s' a b, ds.all okDeed = true ∧ szs ds s = some s' ∧ ds.length = xs.length ∧ n' ≤ n + 5 * xs.length ∧
      loopF it (gN 6) lp_deeds xs [some (scr ns), some (.ref 0), some (.int s.1), some (.int s.2), x4, some (.ref (rest.length + 1)), o6, o7] (Tn n (rest ++ [.lst acc])) =
        .nx [some (scr ns), some (.ref 0), some (.int s'.1), some (.int s'.2), x4, some (.ref (rest.length + 1)), a, b] (Tn n' (rest ++ [.lst (acc ++ ds.map Deed.d)]))
  | [], n, s, acc, o6, o7, hs, hn, ha => ⟨[], n, s, o6, o7, rfl, rfl, rfl, by omega, by simp only [loopF, if_pos (show okG it _ by unfold okG; rw [hi]; trivial), List.map_nil, List.append_nil]⟩
  | x :: xs, n, s, acc, o6, o7, hs, hn, ha => by
    simp only [List.length_cons] at hn ha
    obtain ⟨d, s1, n1, h1, h2, h3, h4⟩ := G_deed ns n hs (by omega) (rest ++ [.lst acc])
    have h5 := G_behind_size h2 (Tn n1 (rest ++ [.lst acc]))
    have h6 := top_app n1 rest acc d.d (by omega)
    have h7 := top_lst n1 rest acc
    obtain ⟨ds, n', s', a, b, i1, i2, i3, i4, ih⟩ := loop_deeds hi ns (x4 := x4) rest xs n1 s1 (acc ++ [d.d]) (some x) (some d.d) (hs.mv h1 h2) (by omega) (by simp; omega)
    refine ⟨d :: ds, n', s', a, b, by simp [h1]; simpa using i1, by simp [szs, h2, i2], by simp [i3], by simp; omega, ?_⟩
    have ho : ∀ S, okG it S := fun S => by unfold okG; rw [hi]; trivial
    simp only [loopF, if_pos (ho _), gN, List.set_cons_succ, List.set_cons_zero]
    have hb : lp_deeds [some (scr ns), some (.ref 0), some (.int s.1), some (.int s.2), x4, some (.ref (rest.length + 1)), some x, o7] (Tn n (rest ++ [.lst acc])) = .nx [some (scr ns), some (.ref 0), some (.int s1.1), some (.int s1.2), x4, some (.ref (rest.length + 1)), some x, some d.d] (Tn n1 (rest ++ [.lst (acc ++ [d.d])])) := by
      unfold lp_deeds
      rw [sq_set (S1 := Tn n1 (rest ++ [.lst acc])) (d := d.d) (by simp; exact h4)]
      simp only [List.set_cons_succ, List.set_cons_zero]
      rw [sq_nx (fr1 := [some (scr ns), some (.ref 0), some (.int s1.1), some (.int s1.2), x4, some (.ref (rest.length + 1)), some x, some d.d]) (S1 := Tn n1 (rest ++ [.lst acc]))]
      · simp [sExpr, h7, h6]
      · simp [sAsg, h5, gT, gsC, gs0, gN]
    rw [hb]
    simp only [ih, List.map_cons, List.append_assoc, List.singleton_append]
theorem G_deeds (ns : List Int) (n most : Nat) {s : Nat × Nat} (hs : Sz s) (hm : most ≤ 20) (hn : n < 700000) (rest : Sto) : ∃ ds n' s', ds.all okDeed = true ∧ szs ds s = some s' ∧ ds.length ≤ most ∧ n' ≤ n + 101 ∧ F_law_deeds [scr ns, .ref 0, .int s.1, .int s.2, .int most] (Tn n rest) = .ok (deedsD ds) (Tn n' rest) := by
  have e : F_law_deeds [scr ns, .ref 0, .int s.1, .int s.2, .int most] (Tn n rest) = leaveR (Tn n rest) (bodyRes (b_law_deeds [some (scr ns), some (.ref 0), some (.int s.1), some (.int s.2), some (.int most), none, none, none] (Tn n rest))) := rfl
  obtain ⟨k, hk, d0⟩ := F_drawN ns n (many := most + 1) (by omega) (by omega) (rest ++ [.lst []])
  obtain ⟨ds, n', s', a, b, i1, i2, i3, i4, ih⟩ := loop_deeds (it := ⟨rngD 0 k, none⟩) rfl ns (x4 := some (.int most)) rest (rngD 0 k) (n + 1) s [] none none hs (by rw [rngD_len]; omega) (by rw [rngD_len]; simp; omega)
  rw [rngD_len] at i3 i4
  refine ⟨ds, n', s', i1, i2, by omega, by omega, ?_⟩
  rw [e]
  unfold b_law_deeds
  rw [sq_set (S1 := Tn n (rest ++ [.lst []])) (d := .ref (rest.length + 1)) (by simp)]
  simp only [List.set_cons_succ, List.set_cons_zero]
  have hr : iRng1' (aCons (eCall F_law_draw (aCons (eVar 0) (aCons (eVar 1) (aCons (e2 addD (eVar 4) (eC (.int 1))) aNil)))) aNil) [some (scr ns), some (.ref 0), some (.int s.1), some (.int s.2), some (.int most), some (.ref (rest.length + 1)), none, none] (Tn n (rest ++ [.lst []])) = .ok ⟨rngD 0 k, none⟩ (Tn (n + 1) (rest ++ [.lst []])) := by
    refine irng ?_ (by omega)
    have d0' : F_law_draw [scr ns, .ref 0, .int ((most : Int) + 1)] (Tn n (rest ++ [.lst []])) = .ok (.int k) (Tn (n + 1) (rest ++ [.lst []])) := by simpa using d0
    simp [d0']
  rw [sq_nx (show sFor _ (gN 6) lp_deeds _ _ = _ by simp only [sFor, hr, Res.then_ok]; exact ih)]
  rw [s_ret (S1 := Tn n' (rest ++ [.lst (ds.map Deed.d)])) (d := deedsD ds) (by simp [tupleD, top_seq])]
  rw [body_ret, leave_Tn (lower_deeds _ ds)]
/-! ### the law's own forms -/
theorem H_turned {s : Nat × Nat} {f : Nat × Nat → D} (h0 : 0 < s.2) (h1 : s.1 ≤ 1000) (h2 : s.2 ≤ 1000) (S : Sto) : F_law_turned [gridD s f] S = .ok (gridD (s.2, s.1) fun p => f (s.2 - 1 - p.2, p.1)) S := by
  have e : F_law_turned [gridD s f] S = bodyRes (b_law_turned [some (gridD s f), none, none] S) := rfl
  unfold b_law_turned at e
  have r0 := g_row (S := S) (s := s) (f := f) (i := 0) (j := 0) rfl h0
  have gl := g_len S s f
  rw [e, s_ret (S1 := S) (d := gridD (s.2, s.1) fun p => f (s.2 - 1 - p.2, p.1))]
  · rfl
  rw [eCall, aCons, comp_rt (S1 := S) (n := s.1) (φ := fun k => .tup (tb s.2 fun j => f (s.2 - 1 - j, k)))]
  · simp [gridD]
  · simp [r0]
  · omega
  · intro k hk
    rw [eCall, aCons, comp_rt (S1 := S) (n := s.2) (φ := fun j => f (s.2 - 1 - j, k))]
    · simp
    · simp [wipeF, gl]
    · omega
    · intro j hj
      have r1 := g_row (S := S) (s := s) (f := f) (i := (s.2 : Int) - 1 - j) (j := s.2 - 1 - j) (by omega) (by omega)
      simp [wipeF, gl, r1, t_cell (S := S) (n := s.1) (f := fun k => f (s.2 - 1 - j, k)) (i := (k : Int)) rfl hk]
theorem H_mirrored {s : Nat × Nat} {f : Nat × Nat → D} (h1 : s.1 ≤ 1000) (h2 : s.2 ≤ 1000) (S : Sto) : F_law_mirrored [gridD s f] S = .ok (gridD s fun p => f (p.1, s.1 - 1 - p.2)) S := by
  have e : F_law_mirrored [gridD s f] S = bodyRes (b_law_mirrored [some (gridD s f), none, none] S) := rfl
  unfold b_law_mirrored at e
  rw [e, s_ret (S1 := S) (d := gridD s fun p => f (p.1, s.1 - 1 - p.2))]
  · rfl
  rw [eCall, aCons, comp_tb (S1 := S) (n := s.2) (g := fun j => .tup (tb s.1 fun k => f (j, k))) (φ := fun j => .tup (tb s.1 fun k => f (j, s.1 - 1 - k)))]
  · simp [gridD]
  · left; simp [gridD]
  · unfold sz; omega
  · intro j hj
    rw [eCall, aCons, comp_rt (S1 := S) (n := s.1) (φ := fun k => f (j, s.1 - 1 - k))]
    · simp
    · simp [wipeF]
    · omega
    · intro k hk
      simp [wipeF, t_cell (S := S) (n := s.1) (f := fun k => f (j, k)) (i := (s.1 : Int) - 1 - k) (j := s.1 - 1 - k) (by omega) (by omega)]
theorem H_worth (d : Deed) (x : Int) (S : Sto) : F_law_worth [.int x, d.d] S = .ok (.int (lgt d x)) S := by
  have e : F_law_worth [.int x, d.d] S = bodyRes (b_law_worth [some (.int x), some d.d] S) := rfl
  rw [e]
  unfold b_law_worth
  have x0 := d_ix0 d S
  have e1 := eqD_str (S := S) d.ok ok_invert (nm_invert d)
  have e2' := eqD_str (S := S) d.ok ok_light (nm_light d)
  cases d with
  | invert => rw [sq_t (S1 := S) (by simp [x0, e1, Deed.isInvert]), sq_r (S1 := S) (d := .int (9 - x)) (by simp)]; rfl
  | light l =>
    have i1 : ixD (Deed.light l).d (.int 1) S = .ok (.int l) S := ix_tup (ds := [.str "light", .int l]) (j := 1) rfl (by simp)
    rw [sq_f (S1 := S) (by simp [x0, e1, Deed.isInvert]), sq_t (S1 := S) (by simp [x0, e2', Deed.isLight]), sq_r (S1 := S) (d := .int (min 9 (max 0 (x + l)))) (by simp [i1, max0_eq, min0_eq])]
    simp [lgt]
    omega
  | _ => rw [sq_f (S1 := S) (by simp [x0, e1, Deed.isInvert]), sq_f (S1 := S) (by simp [x0, e2', Deed.isLight]), s_ret (S1 := S) (d := .int x) (by simp)]; rfl
end Py
set_option maxRecDepth 100000
set_option maxHeartbeats 1000000
namespace Py
open PySem PySem.Spec PyProof.Rows L2
/-! ### == of plain data is sameness -/
def pl : Nat → D → Bool
  | 0, _ => false
  | n + 1, .non => true
  | n + 1, .int _ => true
  | n + 1, .str x => PyData.strOk x
  | n + 1, .tup ds => ds.all (pl n)
  | n + 1, .lst ds => ds.all (pl n)
  | _, _ => false
theorem pls_data {n : Nat} {S : Sto} (ih : ∀ a, pl n a = true → ∃ p, toP n S a = some p) : ∀ as : List D, as.all (pl n) = true → ∃ ps, toPs (toP n S) as = some ps
  | [], h => ⟨[], rfl⟩
  | a :: as, h => by
    simp only [List.all_cons, Bool.and_eq_true] at h
    obtain ⟨p, e⟩ := ih a h.1
    obtain ⟨ps, es⟩ := pls_data ih as h.2
    exact ⟨p :: ps, by simp only [toPs, e, es]⟩
theorem pl_data {S : Sto} : ∀ (n : Nat) (a : D), pl n a = true → ∃ p, toP n S a = some p
  | n + 1, .non, h => ⟨_, rfl⟩
  | n + 1, .int _, h => ⟨_, rfl⟩
  | n + 1, .str x, h => by simp only [pl] at h; exact ⟨.str x, by simp only [toP, h, if_true]⟩
  | n + 1, .tup ds, h => by
    simp only [pl] at h
    obtain ⟨ps, e⟩ := pls_data (S := S) (pl_data n) ds h
    exact ⟨.tuple ps, by simp only [toP, e, Option.map_some]⟩
  | n + 1, .lst ds, h => by
    simp only [pl] at h
    obtain ⟨ps, e⟩ := pls_data (S := S) (pl_data n) ds h
    exact ⟨.list ps, by simp only [toP, e, Option.map_some]⟩
theorem pls_eqv {n : Nat} {S : Sto} (ih : ∀ a b p q, pl n a = true → pl n b = true → toP n S a = some p → toP n S b = some q → (PyData.eqv p q = true ↔ a = b)) : ∀ (as bs : List D) (ps qs : List PyData), as.all (pl n) = true → bs.all (pl n) = true → toPs (toP n S) as = some ps → toPs (toP n S) bs = some qs → (PyData.eqvAll ps qs = true ↔ as = bs)
  | [], [], ps, qs, ha, hb, ea, eb => by cases ea; cases eb; simp [PyData.eqvAll]
  | [], b :: bs, ps, qs, ha, hb, ea, eb => by
    cases ea
    simp only [toPs] at eb
    split at eb
    · cases eb; simp [PyData.eqvAll]
    · cases eb
  | a :: as, [], ps, qs, ha, hb, ea, eb => by
    cases eb
    simp only [toPs] at ea
    split at ea
    · cases ea; simp [PyData.eqvAll]
    · cases ea
  | a :: as, b :: bs, ps, qs, ha, hb, ea, eb => by
    simp only [List.all_cons, Bool.and_eq_true] at ha hb
    simp only [toPs] at ea eb
    split at ea
    · rename_i p ps' e1 e2
      cases ea
      split at eb
      · rename_i q qs' f1 f2
        cases eb
        have h1 := ih a b p q ha.1 hb.1 e1 f1
        have h2 := pls_eqv ih as bs ps' qs' ha.2 hb.2 e2 f2
        simp only [PyData.eqvAll, Bool.and_eq_true, h1, h2, List.cons.injEq]
      · cases eb
    · cases ea
theorem pl_eqv {S : Sto} : ∀ (n : Nat) (a b : D) (p q : PyData), pl n a = true → pl n b = true → toP n S a = some p → toP n S b = some q → (PyData.eqv p q = true ↔ a = b)
  | 0, a, b, p, q, ha, hb, ea, eb => by simp [pl] at ha
  | n + 1, a, b, p, q, ha, hb, ea, eb => by
    have ih := pls_eqv (n := n) (S := S) (pl_eqv n)
    have red : ∀ ds : List D, ∀ p, (toPs (toP n S) ds).map PyData.tuple = some p → ∃ ps, p = .tuple ps ∧ toPs (toP n S) ds = some ps := fun ds p h => by
      cases e : toPs (toP n S) ds with
      | none => rw [e] at h; cases h
      | some ps => rw [e] at h; cases h; exact ⟨ps, rfl, rfl⟩
    have rel : ∀ ds : List D, ∀ p, (toPs (toP n S) ds).map PyData.list = some p → ∃ ps, p = .list ps ∧ toPs (toP n S) ds = some ps := fun ds p h => by
      cases e : toPs (toP n S) ds with
      | none => rw [e] at h; cases h
      | some ps => rw [e] at h; cases h; exact ⟨ps, rfl, rfl⟩
    have hA : ∀ (x : D) (p : PyData), pl (n + 1) x = true → toP (n + 1) S x = some p → (x = .non ∧ p = .none) ∨ (∃ i, x = .int i ∧ p = .int i) ∨ (∃ z, x = .str z ∧ p = .str z) ∨ (∃ ds ps, x = .tup ds ∧ p = .tuple ps ∧ ds.all (pl n) = true ∧ toPs (toP n S) ds = some ps) ∨ (∃ ds ps, x = .lst ds ∧ p = .list ps ∧ ds.all (pl n) = true ∧ toPs (toP n S) ds = some ps) := by
      intro x p hx ex
      cases x with
      | non => cases ex; exact .inl ⟨rfl, rfl⟩
      | int i => cases ex; exact .inr (.inl ⟨i, rfl, rfl⟩)
      | str z => simp only [pl] at hx; simp only [toP, hx, if_true] at ex; cases ex; exact .inr (.inr (.inl ⟨z, rfl, rfl⟩))
      | tup ds => simp only [pl] at hx; simp only [toP] at ex; obtain ⟨ps, rfl, e⟩ := red ds p ex; exact .inr (.inr (.inr (.inl ⟨ds, ps, rfl, rfl, hx, e⟩)))
      | lst ds => simp only [pl] at hx; simp only [toP] at ex; obtain ⟨ps, rfl, e⟩ := rel ds p ex; exact .inr (.inr (.inr (.inr ⟨ds, ps, rfl, rfl, hx, e⟩)))
      | _ => simp [pl] at hx
    rcases hA a p ha ea with ⟨rfl, rfl⟩ | ⟨i, rfl, rfl⟩ | ⟨z, rfl, rfl⟩ | ⟨ds, ps, rfl, rfl, h1, h2⟩ | ⟨ds, ps, rfl, rfl, h1, h2⟩ <;>
      rcases hA b q hb eb with ⟨rfl, rfl⟩ | ⟨j, rfl, rfl⟩ | ⟨w, rfl, rfl⟩ | ⟨es, qs, rfl, rfl, k1, k2⟩ | ⟨es, qs, rfl, rfl, k1, k2⟩ <;>
      first
        | (simp only [PyData.eqv, D.tup.injEq, D.lst.injEq]; exact ih ds es ps qs h1 k1 h2 k2)
        | simp [PyData.eqv]
open Classical in
theorem eqD_pl {neg : Bool} {S : Sto} {a b : D} (ha : pl 12 a = true) (hb : pl 12 b = true) : eqD neg a b S = .ok (.bl (if neg then !decide (a = b) else decide (a = b))) S := by
  obtain ⟨p, hp⟩ := pl_data (S := S) 12 a ha
  obtain ⟨q, hq⟩ := pl_data (S := S) 12 b hb
  have h := pl_eqv 12 a b p q ha hb hp hq
  have e : PyData.eqv p q = decide (a = b) := by rw [Bool.eq_iff_iff]; simpa using h
  simp only [eqD, dP, hp, hq, e]
theorem pl_int (n : Nat) (i : Int) : pl (n + 1) (.int i) = true := rfl
theorem pl_tb {n m : Nat} {f : Nat → D} (h : ∀ k, pl n (f k) = true) : pl (n + 1) (.tup (tb m f)) = true := by
  simp only [pl, tb_filter_all]
  simp [h]
theorem pl_grid {n : Nat} {s : Nat × Nat} {g : Nat × Nat → Int} : pl (n + 3) (gridI s g) = true := pl_tb fun j => pl_tb fun k => pl_int _ _
theorem pl_gridD {n : Nat} {s : Nat × Nat} {f : Nat × Nat → D} (h : ∀ p, pl n (f p) = true) : pl (n + 2) (gridD s f) = true := pl_tb fun j => pl_tb fun k => h _
theorem ne_self {S : Sto} {a : D} (h : pl 12 a = true) : eqD true a a S = .ok (.bl false) S := by rw [eqD_pl h h]; simp
theorem eq_self' {S : Sto} {a : D} (h : pl 12 a = true) : eqD false a a S = .ok (.bl true) S := by rw [eqD_pl h h]; simp
/-! ### deeds in a row: plain facts -/
def Deed.isL (d : Deed) : Bool := d.isLight || d.isInvert
theorem szs_mv : ∀ (ds : List Deed) (s : Nat × Nat), szs (ds.filter fun d => !d.isL) s = szs ds s
  | [], s => rfl
  | d :: ds, s => by
    cases h : d.isL with
    | true =>
      rw [List.filter_cons_of_neg (by simp [h]), szs_mv ds s]
      cases d <;> first | rfl | cases h
    | false =>
      rw [List.filter_cons_of_pos (by simp [h])]
      simp only [szs]
      congr 1
      funext s'
      exact szs_mv ds s'
theorem pos_mv : ∀ (ds : List Deed) (s : Nat × Nat), pos (ds.filter fun d => !d.isL) s = pos ds s
  | [], s => rfl
  | d :: ds, s => by
    funext p
    cases h : d.isL with
    | true =>
      rw [List.filter_cons_of_neg (by simp [h]), pos_mv ds s]
      cases d <;> first | rfl | cases h
    | false =>
      rw [List.filter_cons_of_pos (by simp [h])]
      simp only [pos, pos_mv ds]
theorem lgs_mv : ∀ (ds : List Deed) (x : Int), lgs (ds.filter fun d => !d.isL) x = x
  | [], s => rfl
  | d :: ds, x => by
    cases h : d.isL with
    | true => rw [List.filter_cons_of_neg (by simp [h]), lgs_mv ds x]
    | false =>
      rw [List.filter_cons_of_pos (by simp [h])]
      simp only [lgs, lgs_mv ds]
      cases d <;> first | rfl | cases h
theorem lgs_lt : ∀ (ds : List Deed) (x : Int), lgs (ds.filter Deed.isL) x = lgs ds x
  | [], s => rfl
  | d :: ds, x => by
    cases h : d.isL with
    | false =>
      rw [List.filter_cons_of_neg (by simp [h]), lgs_lt ds x]
      cases d <;> first | rfl | cases h
    | true =>
      rw [List.filter_cons_of_pos (by simp [h])]
      simp only [lgs, lgs_lt ds]
theorem szs_lt : ∀ (ds : List Deed) (s : Nat × Nat), szs (ds.filter Deed.isL) s = some s
  | [], s => rfl
  | d :: ds, s => by
    cases h : d.isL with
    | false => rw [List.filter_cons_of_neg (by simp [h]), szs_lt ds s]
    | true =>
      rw [List.filter_cons_of_pos (by simp [h])]
      have : mvS d s = some s := by cases d <;> first | rfl | cases h
      simp only [szs, this, Option.bind_some, szs_lt ds]
theorem pos_lt : ∀ (ds : List Deed) (s p : Nat × Nat), pos (ds.filter Deed.isL) s p = p
  | [], s, p => rfl
  | d :: ds, s, p => by
    cases h : d.isL with
    | false => rw [List.filter_cons_of_neg (by simp [h]), pos_lt ds s]
    | true =>
      rw [List.filter_cons_of_pos (by simp [h])]
      simp only [pos, pos_lt ds]
      cases d <;> first | rfl | cases h
theorem pos_app : ∀ (as bs : List Deed) (s s1 p : Nat × Nat), szs as s = some s1 → pos (as ++ bs) s p = pos as s (pos bs s1 p)
  | [], bs, s, s1, p, h => by cases h; rfl
  | a :: as, bs, s, s1, p, h => by
    simp only [szs] at h
    cases e : mvS a s with
    | none => rw [e] at h; cases h
    | some s2 =>
      rw [e] at h
      simp only [List.cons_append, pos, e, Option.getD_some, pos_app as bs s2 s1 p h]
theorem lgs_app : ∀ (as bs : List Deed) (x : Int), lgs (as ++ bs) x = lgs bs (lgs as x)
  | [], bs, x => rfl
  | a :: as, bs, x => by simp only [List.cons_append, lgs, lgs_app as bs]
theorem lgt_range {d : Deed} {x : Int} (h0 : 0 ≤ x) (h9 : x ≤ 9) : 0 ≤ lgt d x ∧ lgt d x ≤ 9 := by
  cases d <;> simp only [lgt] <;> omega
theorem lgs_range : ∀ {ds : List Deed} {x : Int}, 0 ≤ x → x ≤ 9 → 0 ≤ lgs ds x ∧ lgs ds x ≤ 9
  | [], x, h0, h9 => ⟨h0, h9⟩
  | d :: ds, x, h0, h9 => lgs_range (ds := ds) (lgt_range h0 h9).1 (lgt_range h0 h9).2
def InS (s p : Nat × Nat) : Prop := p.1 < s.2 ∧ p.2 < s.1
theorem mvP_in {d : Deed} {s s' p : Nat × Nat} (e : mvS d s = some s') (h : InS s' p) : InS s (mvP d s p) := by
  unfold InS at h ⊢
  cases d with
  | turn => cases e; simp only [mvP] at h ⊢; omega
  | mirror => cases e; simp only [mvP] at h ⊢; omega
  | halve => cases e; simp only [mvP] at h ⊢; omega
  | cut l t a b =>
    simp only [mvS] at e
    split at e
    · cases e; simp only [mvP] at h ⊢; omega
    · cases e
  | _ => cases e; exact h
theorem pos_in : ∀ {ds : List Deed} {s s' p : Nat × Nat}, szs ds s = some s' → InS s' p → InS s (pos ds s p)
  | [], s, s', p, e, h => by cases e; exact h
  | d :: ds, s, s', p, e, h => by
    simp only [szs] at e
    cases e1 : mvS d s with
    | none => rw [e1] at e; cases e
    | some s1 =>
      rw [e1] at e
      simp only [pos, e1, Option.getD_some]
      exact mvP_in e1 (pos_in e h)
theorem Cells.bh {ds : List Deed} {s s' : Nat × Nat} {g : Nat × Nat → Int} (hc : Cells s g) (e : szs ds s = some s') : Cells s' fun p => lgs ds (g (pos ds s p)) := fun j k hj hk => by
  have := pos_in (p := (j, k)) e ⟨hj, hk⟩
  have h := hc _ _ this.1 this.2
  exact lgs_range h.1 h.2
/-! ### _law_one, _law_done, _law_map -/
theorem H_one {s : Nat × Nat} {g : Nat × Nat → Int} (d : Deed) (hs : Sz s) (S : Sto) :
    F_law_one [gridI s g, d.d] S = (match mvS d s with | none => .ok .non S | some s' => .ok (gridI s' fun p => lgt d (g (mvP d s p))) S) := by
  have e : F_law_one [gridI s g, d.d] S = bodyRes (b_law_one [some (gridI s g), some d.d, none, none, none, none, none, none, none, none] S) := rfl
  rw [e]
  unfold b_law_one
  have h0 := hs.2.1
  have h1 : s.1 ≤ 8 := hs.2.2.1
  have h2 : s.2 ≤ 8 := hs.2.2.2
  have x0 := d_ix0 d S
  have e1 := eqD_str (S := S) d.ok ok_turn (nm_turn d)
  have e2' := eqD_str (S := S) d.ok ok_mirror (nm_mirror d)
  have e3 := eqD_str (S := S) d.ok ok_halve (nm_halve d)
  have e4 := eqD_str (S := S) d.ok ok_cut (nm_cut d)
  have r0 := g_row (S := S) (s := s) (f := fun p => .int (g p)) (i := 0) (j := 0) rfl h0
  have gl := g_len S s (fun p => .int (g p))
  have light : ∀ d' : Deed, sRet (eCall tupleD (aCons (eComp [6] (iSeq (eVar 0)) (gN 6) tTrue (eCall tupleD (aCons (eComp [8] (iSeq (eVar 6)) (gN 8) tTrue (eCall F_law_worth (aCons (eVar 8) (aCons (eVar 1) aNil)))) aNil))) aNil)) [some (gridI s g), some d'.d, none, none, none, none, none, none, none, none] S = .ret (gridI s fun p => lgt d' (g p)) S := fun d' => by
    refine s_ret ?_
    rw [eCall, aCons, comp_tb (S1 := S) (n := s.2) (g := fun j => .tup (tb s.1 fun k => .int (g (j, k)))) (φ := fun j => .tup (tb s.1 fun k => .int (lgt d' (g (j, k)))))]
    · simp [gridI, gridD]
    · left; simp [gridI, gridD]
    · unfold sz; omega
    · intro j hj
      rw [eCall, aCons, comp_tb (S1 := S) (n := s.1) (g := fun k => .int (g (j, k))) (φ := fun k => .int (lgt d' (g (j, k))))]
      · simp
      · left; simp [wipeF]
      · unfold sz; omega
      · intro k hk
        simp [wipeF, H_worth]
  cases d with
  | turn =>
    have := H_turned (f := fun p => .int (g p)) h0 (by omega) (by omega) S
    rw [sq_t (S1 := S) (by simp [x0, e1, Deed.isTurn]), sq_r (S1 := S) (d := gridD (s.2, s.1) fun p => .int (g (s.2 - 1 - p.2, p.1))) (by simp [gridI, this])]
    rfl
  | mirror =>
    have := H_mirrored (s := s) (f := fun p => .int (g p)) (by omega) (by omega) S
    rw [sq_f (S1 := S) (by simp [x0, e1, Deed.isTurn]), sq_t (S1 := S) (by simp [x0, e2', Deed.isMirror]), sq_r (S1 := S) (d := gridD s fun p => .int (g (p.1, s.1 - 1 - p.2))) (by simp [gridI, this])]
    rfl
  | invert => rw [sq_f (S1 := S) (by simp [x0, e1, Deed.isTurn]), sq_f (S1 := S) (by simp [x0, e2', Deed.isMirror]), sq_f (S1 := S) (by simp [x0, e3, Deed.isHalve]), sq_f (S1 := S) (by simp [x0, e4, Deed.isCut]), light .invert]; rfl
  | light l => rw [sq_f (S1 := S) (by simp [x0, e1, Deed.isTurn]), sq_f (S1 := S) (by simp [x0, e2', Deed.isMirror]), sq_f (S1 := S) (by simp [x0, e3, Deed.isHalve]), sq_f (S1 := S) (by simp [x0, e4, Deed.isCut]), light (.light l)]; rfl
  | halve =>
    rw [sq_f (S1 := S) (by simp [x0, e1, Deed.isTurn]), sq_f (S1 := S) (by simp [x0, e2', Deed.isMirror]), sq_t (S1 := S) (by simp [x0, e3, Deed.isHalve])]
    rw [sq_ret (d := gridI ((s.1 + 1) / 2, (s.2 + 1) / 2) fun p => g (2 * p.1, 2 * p.2)) (S1 := S)]
    · rfl
    rw [sq_set (S1 := S) (d := .int (((s.2 + 1) / 2 : Nat) : Int)) (by simp [gridI, gl, fdiv_eq])]
    simp only [List.set_cons_succ, List.set_cons_zero]
    rw [sq_set (S1 := S) (d := .int (((s.1 + 1) / 2 : Nat) : Int)) (by simp [gridI, r0, fdiv_eq])]
    simp only [List.set_cons_succ, List.set_cons_zero]
    refine s_ret ?_
    rw [eCall, aCons, comp_rt (S1 := S) (n := (s.2 + 1) / 2) (φ := fun j => .tup (tb ((s.1 + 1) / 2) fun k => .int (g (2 * j, 2 * k))))]
    · simp [gridI, gridD]
    · simp
    · omega
    · intro j hj
      rw [eCall, aCons, comp_rt (S1 := S) (n := (s.1 + 1) / 2) (φ := fun k => .int (g (2 * j, 2 * k)))]
      · simp
      · simp [wipeF]
      · omega
      · intro k hk
        have r1 := g_row (S := S) (s := s) (f := fun p => .int (g p)) (i := 2 * (j : Int)) (j := 2 * j) (by omega) (by omega)
        have r2 := t_cell (S := S) (n := s.1) (f := fun k => .int (g (2 * j, k))) (i := 2 * (k : Int)) (j := 2 * k) (by omega) (by omega)
        have m1 := mul_small (S := S) (i := 2) (j := (j : Int)) (.inl (small_of (by omega) (by omega)))
        have m2 := mul_small (S := S) (i := 2) (j := (k : Int)) (.inl (small_of (by omega) (by omega)))
        simp [wipeF, gridI, m1, m2, r1, r2]
  | cut l t a b =>
    have q : cutD [D.str "cut", .int l, .int t, .int a, .int b] (some (1 : Int)) none = [.int l, .int t, .int a, .int b] := by
      unfold cutD
      have : HT.sIx 5 0 (some (1 : Int)) = 1 := HT.sIx_nat 5 0 1
      simp [this, HT.sIx_none]
    rw [sq_f (S1 := S) (by simp [x0, e1, Deed.isTurn]), sq_f (S1 := S) (by simp [x0, e2', Deed.isMirror]), sq_f (S1 := S) (by simp [x0, e3, Deed.isHalve]), sq_t (S1 := S) (by simp [x0, e4, Deed.isCut])]
    simp only [mvS]
    have hq : sAsg (gT 4 (gsC (gN 4) (gsC (gN 5) (gsC (gN 3) (gsC (gN 2) gs0))))) (eSlc (eVar 1) (oSome (eC (.int 1))) oNone) [some (gridI s g), some (Deed.cut l t a b).d, none, none, none, none, none, none, none, none] S = .nx [some (gridI s g), some (Deed.cut l t a b).d, some (.int b), some (.int a), some (.int l), some (.int t), none, none, none, none] S := by
      simp [sAsg, Deed.d, q, gT, gsC, gs0, gN]
    by_cases c : l + a ≤ s.1 ∧ t + b ≤ s.2
    · rw [if_pos c]
      have c1 : ¬ (s.1 : Int) < (l : Int) + (a : Int) := by omega
      have c2 : ¬ (s.2 : Int) < (t : Int) + (b : Int) := by omega
      rw [sq_ret (d := gridI (a, b) fun p => g (t + p.1, l + p.2)) (S1 := S)]
      · rfl
      rw [sq_nx hq, sq_f (S1 := S) (by simp [gridI, r0, gl, c1, c2])]
      refine s_ret ?_
      rw [eCall, aCons, comp_rt (S1 := S) (n := b) (φ := fun j => .tup (tb a fun k => .int (g (t + j, l + k))))]
      · simp [gridI, gridD]
      · simp
      · omega
      · intro j hj
        rw [eCall, aCons, comp_rt (S1 := S) (n := a) (φ := fun k => .int (g (t + j, l + k)))]
        · simp
        · simp [wipeF]
        · omega
        · intro k hk
          have r1 := g_row (S := S) (s := s) (f := fun p => .int (g p)) (i := (t : Int) + (j : Int)) (j := t + j) (by omega) (by omega)
          have r2 := t_cell (S := S) (n := s.1) (f := fun k => .int (g (t + j, k))) (i := (l : Int) + (k : Int)) (j := l + k) (by omega) (by omega)
          simp [wipeF, gridI, r1, r2]
    · rw [if_neg c]
      have hc : sIf (tOrM (tVal (e2 gtD (e2 addD (eVar 4) (eVar 3)) (eCall lenD (aCons (e2 ixD (eVar 0) (eC (.int 0))) aNil)))) (tVal (e2 gtD (e2 addD (eVar 5) (eVar 2)) (eCall lenD (aCons (eVar 0) aNil))))) (sRet (eC .non)) sNil [some (gridI s g), some (Deed.cut l t a b).d, some (.int b), some (.int a), some (.int l), some (.int t), none, none, none, none] S = .ret .non S := by
        by_cases c1 : l + a ≤ s.1
        · have c1' : ¬ (s.1 : Int) < (l : Int) + (a : Int) := by omega
          have c2' : (s.2 : Int) < (t : Int) + (b : Int) := by omega
          simp [sIf, gridI, r0, gl, c1', c2', sRet]
        · have c1' : (s.1 : Int) < (l : Int) + (a : Int) := by omega
          simp [sIf, gridI, r0, gl, c1', sRet]
      rw [sq_ret (d := .non) (S1 := S) (by rw [sq_nx hq, sq_ret hc])]
      rfl
noncomputable abbrev lp_done : MS := sIf (tVal (e2 (isnD true) (eVar 0) (eC .non))) (sSet 0 (eCall F_law_one (aCons (eVar 0) (aCons (eVar 2) aNil)))) sNil
def optD : Option ((Nat × Nat) × (Nat × Nat → Int)) → D
  | none => .non
  | some (s, g) => gridI s g
theorem loop_none {it : Its} (hi : it.guard = none) {Z : Option D} (S : Sto) : ∀ (xs : List D) (o2 : Option D), ∃ a, loopF it (gN 2) lp_done xs [some .non, Z, o2] S = .nx [some .non, Z, a] S
  | [], o2 => ⟨o2, by simp only [loopF, if_pos (show okG it S by unfold okG; rw [hi]; trivial)]⟩
  | x :: xs, o2 => by
    obtain ⟨a, ih⟩ := loop_none hi (Z := Z) S xs (some x)
    refine ⟨a, ?_⟩
    simp only [loopF, if_pos (show okG it S by unfold okG; rw [hi]; trivial), gN, List.set_cons_succ, List.set_cons_zero]
    simp [lp_done, sIf, isnD, sNil, ih]
theorem loop_done {it : Its} (hi : it.guard = none) {Z : Option D} (S : Sto) : ∀ (ds : List Deed) (s : Nat × Nat) (g : Nat × Nat → Int) (o2 : Option D), Sz s → ds.all okDeed = true →
    ∃ a, loopF it (gN 2) lp_done (ds.map Deed.d) [some (gridI s g), Z, o2] S = .nx [some (optD ((szs ds s).map fun s' => (s', fun p => lgs ds (g (pos ds s p))))), Z, a] S
  | [], s, g, o2, hs, hd => ⟨o2, by simp only [List.map_nil, loopF, szs, lgs, pos, if_pos (show okG it S by unfold okG; rw [hi]; trivial)]; rfl⟩
  | d :: ds, s, g, o2, hs, hd => by
    simp only [List.all_cons, Bool.and_eq_true] at hd
    have ho : okG it S := by unfold okG; rw [hi]; trivial
    have h1 := H_one (g := g) d hs S
    simp only [List.map_cons, loopF, if_pos ho, gN, List.set_cons_succ, List.set_cons_zero]
    have hn : isnD true (gridI s g) .non S = .ok (.bl true) S := rfl
    cases e1 : mvS d s with
    | none =>
      rw [e1] at h1
      obtain ⟨a, ih⟩ := loop_none hi (Z := Z) S (ds.map Deed.d) (some d.d)
      refine ⟨a, ?_⟩
      simp [sIf, hn, sSet, h1, ih, szs, e1, optD]
    | some s1 =>
      rw [e1] at h1
      obtain ⟨a, ih⟩ := loop_done hi (Z := Z) S ds s1 (fun p => lgt d (g (mvP d s p))) (some d.d) (hs.mv hd.1 e1) hd.2
      refine ⟨a, ?_⟩
      simp [sIf, hn, sSet, h1, ih, szs, e1, lgs, pos]
theorem H_done {ds : List Deed} {s : Nat × Nat} {g : Nat × Nat → Int} {Z : D} (hZ : Z = .tup (ds.map Deed.d) ∨ Z = .lst (ds.map Deed.d)) (hs : Sz s) (hd : ds.all okDeed = true) (S : Sto) : F_law_done [gridI s g, Z] S = .ok (optD ((szs ds s).map fun s' => (s', fun p => lgs ds (g (pos ds s p))))) S := by
  have e : F_law_done [gridI s g, Z] S = bodyRes (b_law_done [some (gridI s g), some Z, none] S) := rfl
  rw [e]
  unfold b_law_done
  obtain ⟨a, h⟩ := loop_done (it := ⟨ds.map Deed.d, none⟩) rfl (Z := some Z) S ds s g none hs hd
  have h' : sFor (iSeq (eVar 1)) (gN 2) lp_done [some (gridI s g), some Z, none] S = .nx [some (optD ((szs ds s).map fun s' => (s', fun p => lgs ds (g (pos ds s p))))), some Z, a] S := by
    have : iSeq (eVar 1) [some (gridI s g), some Z, none] S = .ok ⟨ds.map Deed.d, none⟩ S := by rcases hZ with rfl | rfl <;> rfl
    simp only [sFor, this, Res.then_ok]
    exact h
  rw [sq_nx h']
  rw [s_ret (S1 := S) (d := optD ((szs ds s).map fun s' => (s', fun p => lgs ds (g (pos ds s p))))) rfl]
  rfl
theorem in_lights {neg : Bool} {S : Sto} (d : Deed) : inD neg (.str d.nm) (.tup [.str "light", .str "invert"]) S = .ok (.bl (if neg then !d.isL else d.isL)) S := by
  have h1 : (("light" : Str) == d.nm) = d.isLight := (BEq.comm).trans (nm_light d)
  have h2 : (("invert" : Str) == d.nm) = d.isInvert := (BEq.comm).trans (nm_invert d)
  simp [inD, dP, toP, toPs, d.ok, ok_light, ok_invert, PyData.eqv, h1, h2, Deed.isL]
theorem map_filter_d (p : Deed → Bool) (q : D → Bool) (h : ∀ d : Deed, q d.d = p d) : ∀ ds : List Deed, (ds.map Deed.d).filter q = (ds.filter p).map Deed.d
  | [] => rfl
  | d :: ds => by
    cases e : p d with
    | true => rw [List.map_cons, List.filter_cons_of_pos (by rw [h, e]), List.filter_cons_of_pos e, List.map_cons, map_filter_d p q h ds]
    | false => rw [List.map_cons, List.filter_cons_of_neg (by rw [h, e]; simp), List.filter_cons_of_neg (by rw [e]; simp), map_filter_d p q h ds]
def dL : D → Bool
  | .tup (.str x :: _) => x == ("light" : Str) || x == ("invert" : Str)
  | _ => false
theorem dL_d (d : Deed) : dL d.d = d.isL := by
  have h1 := nm_light d
  have h2 := nm_invert d
  cases d <;> simp only [Deed.d, dL, Deed.isL, Deed.nm] at h1 h2 ⊢ <;> rw [h1, h2]
theorem comp_lights {neg : Bool} {vs : List Nat} {i : Nat} {f : ME} {fr : Fr} {S : Sto} {ds : List Deed} (hl : ds.length ≤ 1000) (hf : f fr S = .ok (deedsD ds) S) (hi : i < (wipeF fr vs).length) :
    eComp vs (iSeq f) (gN i) (tVal (e2 (inD neg) (e2 ixD (eVar i) (eC (.int 0))) (eTup (aCons (eC (.str "light")) (aCons (eC (.str "invert")) aNil))))) (eVar i) fr S = .ok (.lst ((ds.filter fun d => if neg then !d.isL else d.isL).map Deed.d)) S := by
  rw [eComp_filter (it := ⟨ds.map Deed.d, none⟩) (S1 := S) (by simp [iSeq, hf, seqIts]) trivial (by simp; unfold sz; omega) (fun d => if neg then !dL d else dL d) (fun d => d)]
  · congr 2
    rw [List.map_id', map_filter_d (fun d => if neg then !d.isL else d.isL)]
    intro d
    simp only [dL_d]
  · intro d hd
    obtain ⟨d0, _, rfl⟩ := List.mem_map.1 hd
    refine ⟨_, rfl, ?_, fun _ => ?_⟩
    · have hx : ((wipeF fr vs).set i (some d0.d))[i]? = some (some d0.d) := by simp [hi]
      simp [hx, d_ix0, in_lights, dL_d]
    · have hx : ((wipeF fr vs).set i (some d0.d))[i]? = some (some d0.d) := by simp [hi]
      simp [hx]
def codeV (p : Nat × Nat) : Int := 100 * p.1 + p.2
theorem H_map {ds : List Deed} {s : Nat × Nat} (hs : Sz s) (hd : ds.all okDeed = true) (hl : ds.length ≤ 1000) (S : Sto) : F_law_map [.int s.1, .int s.2, deedsD ds] S = .ok (optD ((szs ds s).map fun s' => (s', fun p => codeV (pos ds s p)))) S := by
  have e : F_law_map [.int s.1, .int s.2, deedsD ds] S = bodyRes (b_law_map [some (.int s.1), some (.int s.2), some (deedsD ds), none, none, none, none] S) := rfl
  rw [e]
  unfold b_law_map
  have hc : eCall tupleD (aCons (eComp [4] (iRng1' (aCons (eVar 1) aNil)) (gN 4) tTrue (eCall tupleD (aCons (eComp [6] (iRng1' (aCons (eVar 0) aNil)) (gN 6) tTrue (e2 addD (e2 mulD (eC (.int 100)) (eVar 4)) (eVar 6))) aNil))) aNil) [some (.int s.1), some (.int s.2), some (deedsD ds), none, none, none, none] S = .ok (gridI s codeV) S := by
    unfold Sz at hs
    rw [eCall, aCons, comp_rt (S1 := S) (n := s.2) (φ := fun j => .tup (tb s.1 fun k => .int (codeV (j, k))))]
    · simp [gridI, gridD]
    · simp
    · omega
    · intro j hj
      rw [eCall, aCons, comp_rt (S1 := S) (n := s.1) (φ := fun k => .int (codeV (j, k)))]
      · simp
      · simp [wipeF]
      · omega
      · intro k hk
        have m1 := mul_small (S := S) (i := 100) (j := (j : Int)) (.inl (small_of (by omega) (by omega)))
        simp [wipeF, m1, codeV]
  rw [sq_set hc]
  simp only [List.set_cons_succ, List.set_cons_zero]
  have hc2 := comp_lights (neg := true) (vs := [5]) (i := 5) (f := eVar 2) (fr := [some (.int s.1), some (.int s.2), some (deedsD ds), some (gridI s codeV), none, none, none]) (S := S) (ds := ds) hl rfl (by simp [wipeF])
  simp only [if_true] at hc2
  have hd' : (ds.filter fun d => !d.isL).all okDeed = true := by
    rw [List.all_eq_true] at hd ⊢
    intro x hx
    exact hd x (List.mem_filter.1 hx).1
  have h3 := H_done (s := s) (g := codeV) (ds := ds.filter fun d => !d.isL) (.inr rfl) hs hd' S
  rw [s_ret (S1 := S) (d := optD ((szs ds s).map fun s' => (s', fun p => codeV (pos ds s p))))]
  · rfl
  · simp [hc2, h3, szs_mv, pos_mv, lgs_mv]
end Py
set_option maxRecDepth 100000
set_option maxHeartbeats 1000000
namespace Py
open PySem PySem.Spec PyProof.Rows L2
/-! ### loops that keep something -/
theorem loop_keep {it : Its} (hi : it.guard = none) {g : MG} {body : MS} {S : Sto} (I : Fr → Prop) : ∀ (xs : List D), (∀ x ∈ xs, ∀ fr, I fr → ∃ fr1 fr', g x fr = some fr1 ∧ body fr1 S = .nx fr' S ∧ I fr') → ∀ fr, I fr → ∃ fr', loopF it g body xs fr S = .nx fr' S ∧ I fr'
  | [], h, fr, hI => ⟨fr, by simp only [loopF, if_pos (show okG it S by unfold okG; rw [hi]; trivial)], hI⟩
  | x :: xs, h, fr, hI => by
    obtain ⟨fr1, fr', h1, h2, h3⟩ := h x (List.mem_cons_self ..) fr hI
    obtain ⟨fr'', h4, h5⟩ := loop_keep hi I xs (fun y hy => h y (List.mem_cons_of_mem _ hy)) fr' h3
    refine ⟨fr'', ?_, h5⟩
    simp only [loopF, if_pos (show okG it S by unfold okG; rw [hi]; trivial), h1, h2, h4]
theorem for_rng_keep {f : MA} {i n : Nat} {body : MS} {S : Sto} {fr : Fr} (I : Fr → Prop) (hf : f fr S = .ok [.int (n : Int)] S) (hn : n ≤ 1000000) (h0 : I fr) (h : ∀ k : Nat, k < n → ∀ fr, I fr → ∃ fr', body (fr.set i (some (.int k))) S = .nx fr' S ∧ I fr') :
    ∃ fr', sFor (iRng1' f) (gN i) body fr S = .nx fr' S ∧ I fr' := by
  have hr := irng hf hn
  obtain ⟨fr', h1, h2⟩ := loop_keep (it := ⟨rngD 0 n, none⟩) rfl (g := gN i) (body := body) (S := S) I (rngD 0 n) (fun x hx fr hI => by
    obtain ⟨k, hk, rfl⟩ := List.mem_map.1 hx
    obtain ⟨fr', a, b⟩ := h k (List.mem_range.1 hk) fr hI
    exact ⟨_, fr', rfl, by simpa using a, b⟩) fr h0
  exact ⟨fr', by simp only [sFor, hr, Res.then_ok]; exact h1, h2⟩
theorem tb_upd {n a : Nat} {f : Nat → D} {x : D} (h : a < n) : cutD (tb n f) none (some (a : Int)) ++ [x] ++ cutD (tb n f) (some ((a : Int) + 1)) none = tb n (fun k => if k = a then x else f k) := by
  have e1 : HT.sIx n n (some (a : Int)) = a := by rw [HT.sIx_nat]; omega
  have e2 : HT.sIx n 0 (some ((a : Int) + 1)) = a + 1 := by
    have := HT.sIx_nat n 0 (a + 1)
    simp only [Int.natCast_add, Int.natCast_one] at this
    rw [this]; omega
  simp only [cutD, tb_len, e1, e2, HT.sIx_none]
  refine tb_ext (by simp; omega) fun k hk hn => ?_
  by_cases c : k = a
  · subst c
    rw [List.getElem_append_left (by simp; omega), List.getElem_append_right (by simp; omega)]
    simp
  · by_cases c2 : k < a
    · rw [List.getElem_append_left (by simp; omega), List.getElem_append_left (by simp; omega)]
      simp [c]
    · rw [List.getElem_append_right (by simp; omega)]
      simp [c]
      congr 1
      omega
theorem add_tup {xs ys : List D} {S : Sto} (h : xs.length + ys.length ≤ 1000000) : addD (.tup xs) (.tup ys) S = .ok (.tup (xs ++ ys)) S := by
  have h' : xs.length + ys.length ≤ sz := h
  simp only [addD, h', if_true]
theorem add_deeds {as bs : List Deed} {S : Sto} (h : as.length + bs.length ≤ 1000) : addD (deedsD as) (deedsD bs) S = .ok (deedsD (as ++ bs)) S := by
  rw [add_tup (by simp; omega), ← List.map_append]
theorem cut_len {xs : List D} {lo hi : Option Int} : (cutD xs lo hi).length ≤ xs.length := by
  unfold cutD
  simp
  omega
theorem upd_tup {n a : Nat} {f : Nat → D} {x : D} {S : Sto} (h : a < n) (hn : n ≤ 1000) : (addD (.tup (cutD (tb n f) none (some (a : Int)))) (.tup [x]) S).bind (fun y S => addD y (.tup (cutD (tb n f) (some ((a : Int) + 1)) none)) S) = .ok (.tup (tb n fun k => if k = a then x else f k)) S := by
  have l1 := cut_len (xs := tb n f) (lo := none) (hi := some (a : Int))
  have l2 := cut_len (xs := tb n f) (lo := some ((a : Int) + 1)) (hi := none)
  rw [tb_len] at l1 l2
  rw [add_tup (by simp; omega), Res.bind_ok, add_tup (by simp; omega), tb_upd h]
theorem all_app {as bs : List Deed} (h1 : as.all okDeed = true) (h2 : bs.all okDeed = true) : (as ++ bs).all okDeed = true := by rw [List.all_append, h1, h2]; rfl
theorem all_filter {p : Deed → Bool} {as : List Deed} (h1 : as.all okDeed = true) : (as.filter p).all okDeed = true := by
  rw [List.all_eq_true] at h1 ⊢
  intro x hx
  exact h1 x (List.mem_filter.1 hx).1
theorem filt_sum (p : Deed → Bool) : ∀ ds : List Deed, (ds.filter p).length + (ds.filter fun d => !p d).length = ds.length
  | [] => rfl
  | d :: ds => by
    have ih := filt_sum p ds
    cases e : p d <;> simp [e] <;> omega
end Py
set_option maxRecDepth 100000
set_option maxHeartbeats 1000000
namespace Py
open PySem PySem.Spec PyProof.Rows L2
/-! ### what is no deed -/
theorem nd_no {x : D} {S : Sto} (h : Ty S x) (ht : isT x = false) : F_is_deed [x] S = .ok (.bl false) S := by
  have e : F_is_deed [x] S = bodyRes (b_is_deed [some x, none] S) := rfl
  rw [e]
  unfold b_is_deed
  have h1 := isi_tup h
  rw [ht] at h1
  rw [sq_t (S1 := S) (by simp [h1]), sq_r (S1 := S) (d := .bl false) rfl]
  rfl
theorem nd_nil {S : Sto} : F_is_deed [.tup []] S = .ok (.bl false) S := by
  have e : F_is_deed [.tup []] S = bodyRes (b_is_deed [some (.tup []), none] S) := rfl
  rw [e]
  unfold b_is_deed
  have h1 : isiD [.tup [], .ty "tuple"] S = .ok (.bl true) S := isi_tup ty_tup
  rw [sq_t (S1 := S) (by simp [h1]), sq_r (S1 := S) (d := .bl false) rfl]
  rfl
theorem ix0 {x : D} {ps : List D} {S : Sto} : ixD (.tup (x :: ps)) (.int 0) S = .ok x S := ix_tup (ds := x :: ps) (j := 0) rfl (by simp)
def lightB : List D → Bool
  | [p] => isW (-9) 9 p
  | _ => false
theorem nd_light {ps : List D} {S : Sto} (hp : ∀ p ∈ ps, Ty S p) : F_is_deed [.tup (.str "light" :: ps)] S = .ok (.bl (lightB ps)) S := by
  have e : F_is_deed [.tup (.str "light" :: ps)] S = bodyRes (b_is_deed [some (.tup (.str "light" :: ps)), none] S) := rfl
  rw [e]
  unfold b_is_deed
  have h1 : isiD [.tup (.str "light" :: ps), .ty "tuple"] S = .ok (.bl true) S := isi_tup ty_tup
  have h2 := s_isS "light" S
  have x0 := ix0 (x := .str "light") (ps := ps) (S := S)
  have e1 : eqD false (.str "light") (.str "light") S = .ok (.bl true) S := eqD_str ok_light ok_light (by decide +kernel)
  have n0 : ¬ ((ps.length : Int) + 1 = 0) := by omega
  rw [sq_f (S1 := S) (by simp [h1, x0, h2, n0]), sq_t (S1 := S) (by simp [x0, e1])]
  rw [sq_r (S1 := S) (d := .bl (lightB ps))]
  · rfl
  · match ps, hp with
    | [], _ => simp [lightB]
    | [p], hp =>
      have i1 : ixD (.tup [.str "light", p]) (.int 1) S = .ok p S := ix_tup (ds := [.str "light", p]) (j := 1) rfl (by simp)
      simp [lightB, i1, F_whole (S := S) (lo := -9) (hi := 9) (hp p (List.mem_cons_self ..))]
    | _ :: _ :: r, _ =>
      have : ¬ ((r.length : Int) + 1 + 1 + 1 = 2) := by omega
      simp [this, lightB]
theorem nd_plain {x : Str} {ps : List D} {S : Sto} {b : Bool} (hx : PyData.strOk x = true) (h1 : (x == ("light" : Str)) = false) (h2 : (x == ("cut" : Str)) = false) (hi : inD false (.tup (.str x :: ps)) g_PLAIN S = .ok (.bl b) S) : F_is_deed [.tup (.str x :: ps)] S = .ok (.bl b) S := by
  have e : F_is_deed [.tup (.str x :: ps)] S = bodyRes (b_is_deed [some (.tup (.str x :: ps)), none] S) := rfl
  rw [e]
  unfold b_is_deed
  have t1 : isiD [.tup (.str x :: ps), .ty "tuple"] S = .ok (.bl true) S := isi_tup ty_tup
  have t2 := s_isS x S
  have x0 := ix0 (x := .str x) (ps := ps) (S := S)
  have e1 : eqD false (.str x) (.str "light") S = .ok (.bl false) S := eqD_str hx ok_light h1
  have e2' : eqD true (.str x) (.str "cut") S = .ok (.bl true) S := neD_str hx ok_cut h2
  have n0 : ¬ ((ps.length : Int) + 1 = 0) := by omega
  rw [sq_f (S1 := S) (by simp [t1, x0, t2, n0]), sq_f (S1 := S) (by simp [x0, e1]), sq_t (S1 := S) (by simp [x0, e2']), sq_r (S1 := S) (d := .bl b) (by simp [hi])]
  rfl
theorem nd_cutN {ps : List D} {S : Sto} (hl : ps.length ≠ 4) : F_is_deed [.tup (.str "cut" :: ps)] S = .ok (.bl false) S := by
  have e : F_is_deed [.tup (.str "cut" :: ps)] S = bodyRes (b_is_deed [some (.tup (.str "cut" :: ps)), none] S) := rfl
  rw [e]
  unfold b_is_deed
  have h1 : isiD [.tup (.str "cut" :: ps), .ty "tuple"] S = .ok (.bl true) S := isi_tup ty_tup
  have h2 := s_isS "cut" S
  have x0 := ix0 (x := .str "cut") (ps := ps) (S := S)
  have e1 : eqD false (.str "cut") (.str "light") S = .ok (.bl false) S := eqD_str ok_cut ok_light (by decide +kernel)
  have e2' : eqD true (.str "cut") (.str "cut") S = .ok (.bl false) S := neD_str (b := true) ok_cut ok_cut (by decide +kernel)
  have n0 : ¬ ((ps.length : Int) + 1 = 0) := by omega
  have n5 : ¬ ((ps.length : Int) + 1 = 5) := by omega
  rw [sq_f (S1 := S) (by simp [h1, x0, h2, n0]), sq_f (S1 := S) (by simp [x0, e1]), sq_f (S1 := S) (by simp [x0, e2']), sq_t (S1 := S) (by simp [n5]), sq_r (S1 := S) (d := .bl false) rfl]
  rfl
theorem nd_cut {a b c d : D} {S : Sto} (ha : Ty S a) (hb : Ty S b) (hc : Ty S c) (hd : Ty S d) : F_is_deed [.tup [.str "cut", a, b, c, d]] S = .ok (.bl (isW 0 7 a && isW 0 7 b && (isW 1 8 c && isW 1 8 d))) S := by
  have e : F_is_deed [.tup [.str "cut", a, b, c, d]] S = bodyRes (b_is_deed [some (.tup [.str "cut", a, b, c, d]), none] S) := rfl
  rw [e]
  unfold b_is_deed
  have h1 : isiD [.tup [.str "cut", a, b, c, d], .ty "tuple"] S = .ok (.bl true) S := isi_tup ty_tup
  have h2 := s_isS "cut" S
  have x0 := ix0 (x := .str "cut") (ps := [a, b, c, d]) (S := S)
  have e1 : eqD false (.str "cut") (.str "light") S = .ok (.bl false) S := eqD_str ok_cut ok_light (by decide +kernel)
  have e2' : eqD true (.str "cut") (.str "cut") S = .ok (.bl false) S := neD_str (b := true) ok_cut ok_cut (by decide +kernel)
  have q1 : cutD [D.str "cut", a, b, c, d] (some (1 : Int)) (some 3) = [a, b] := by
    unfold cutD
    have a : HT.sIx 5 0 (some (1 : Int)) = 1 := HT.sIx_nat 5 0 1
    have b : HT.sIx 5 5 (some (3 : Int)) = 3 := HT.sIx_nat 5 5 3
    simp [a, b]
  have q2 : cutD [D.str "cut", a, b, c, d] (some (3 : Int)) none = [c, d] := by
    unfold cutD
    have a : HT.sIx 5 0 (some (3 : Int)) = 3 := HT.sIx_nat 5 0 3
    simp [a, HT.sIx_none]
  rw [sq_f (S1 := S) (by simp [h1, x0, h2]), sq_f (S1 := S) (by simp [x0, e1]), sq_f (S1 := S) (by simp [x0, e2'])]
  have c1 : eComp [1] (iSeq (eSlc (eVar 0) (oSome (eC (.int 1))) (oSome (eC (.int 3))))) (gN 1) tTrue (eCall F_is_whole (aCons (eVar 1) (aCons (eC (.int 0)) (aCons (e2 subD (eC (.int 8)) (eC (.int 1))) aNil)))) [some (.tup [.str "cut", a, b, c, d]), none] S = .ok (.lst [.bl (isW 0 7 a), .bl (isW 0 7 b)]) S := by
    rw [comp_seq (S1 := S) (ds := [a, b]) (φ := fun d => .bl (isW 0 7 d))]
    · rfl
    · left; simp [q1]
    · simp
    · intro x hx
      have hT : Ty S x := by simp at hx; rcases hx with rfl | rfl <;> assumption
      simp [wipeF, F_whole (S := S) (lo := 0) (hi := 7) hT]
  have c2 : eComp [1] (iSeq (eSlc (eVar 0) (oSome (eC (.int 3))) oNone)) (gN 1) tTrue (eCall F_is_whole (aCons (eVar 1) (aCons (eC (.int 1)) (aCons (eC (.int 8)) aNil)))) [some (.tup [.str "cut", a, b, c, d]), none] S = .ok (.lst [.bl (isW 1 8 c), .bl (isW 1 8 d)]) S := by
    rw [comp_seq (S1 := S) (ds := [c, d]) (φ := fun d => .bl (isW 1 8 d))]
    · rfl
    · left; simp [q2]
    · simp
    · intro x hx
      have hT : Ty S x := by simp at hx; rcases hx with rfl | rfl <;> assumption
      simp [wipeF, F_whole (S := S) (lo := 1) (hi := 8) hT]
  cases b1 : (isW 0 7 a && isW 0 7 b) with
  | true => rw [sq_f (S1 := S) (by simp [c1, all2]; simpa using b1), s_ret (S1 := S) (d := .bl (isW 1 8 c && isW 1 8 d)) (by simp only [ap_call, ap_cons, c2, Res.bind_ok, ap_nil, all2])]; rfl
  | false => rw [sq_t (S1 := S) (by simp [c1, all2]; cases hA : isW 0 7 a <;> simp_all), sq_r (S1 := S) (d := .bl false) rfl]; rfl
/-! ### are_deeds of anything -/
theorem nds_no {x : D} {S : Sto} (h : Ty S x) (ht : isT x = false) : F_are_deeds [x] S = .ok (.bl false) S := by
  have e : F_are_deeds [x] S = bodyRes (b_are_deeds [some x, none] S) := rfl
  rw [e]
  unfold b_are_deeds
  have h1 := isi_tup h
  rw [ht] at h1
  rw [s_ret (S1 := S) (d := .bl false) (by simp [h1])]
  rfl
theorem nds_tup {ds : List D} {S : Sto} (hl : ds.length ≤ 1000) (q : D → Bool) (h : ds.length ≤ 20 → ∀ d ∈ ds, F_is_deed [d] S = .ok (.bl (q d)) S) : F_are_deeds [.tup ds] S = .ok (.bl (decide (ds.length ≤ 20) && ds.all q)) S := by
  have e : F_are_deeds [.tup ds] S = bodyRes (b_are_deeds [some (.tup ds), none] S) := rfl
  rw [e]
  unfold b_are_deeds
  have h1 : isiD [.tup ds, .ty "tuple"] S = .ok (.bl true) S := isi_tup ty_tup
  by_cases k : ds.length ≤ 20
  · have k' : (ds.length : Int) ≤ 20 := by omega
    have c : eComp [1] (iSeq (eVar 0)) (gN 1) tTrue (eCall F_is_deed (aCons (eVar 1) aNil)) [some (.tup ds), none] S = .ok (.lst (ds.map fun d => .bl (q d))) S := by
      rw [comp_seq (S1 := S) (ds := ds) (φ := fun d => .bl (q d))]
      · left; simp
      · unfold sz; omega
      · intro d hd; simp [wipeF, h k d hd]
    rw [s_ret (S1 := S) (d := .bl (ds.all q)) (by simp [h1, k', c, allD_map])]
    simp [k]
  · have k' : ¬ (ds.length : Int) ≤ 20 := by omega
    rw [s_ret (S1 := S) (d := .bl false) (by simp [h1, k'])]
    simp [k]
theorem nds_need {x : D} {S : Sto} (h : F_are_deeds [x] S = .ok (.bl false) S) : F_need_deeds [x] S = .exc "NoDeeds" S := by
  have e : F_need_deeds [x] S = bodyRes (b_need_deeds [some x] S) := rfl
  rw [e]
  unfold b_need_deeds
  simp [sIf, h, sRaise]
theorem nds_one {x : D} {S : Sto} (h : F_is_deed [x] S = .ok (.bl false) S) : F_need_deeds [.tup [x]] S = .exc "NoDeeds" S := by
  refine nds_need ?_
  rw [nds_tup (by simp) (fun _ => false) (fun _ d hd => by simp at hd; subst hd; exact h)]
  simp
/-! ### done, size where they refuse -/
theorem done_nopic {x y : D} {S : Sto} (h : Ty3 S x) (hp : isPic x = false) : F_done [x, y] S = .exc "NoPicture" S := by
  have e : F_done [x, y] S = bodyRes (b_done [some x, some y] S) := rfl
  rw [e]
  unfold b_done
  have := F_npic h
  rw [hp] at this
  rw [sq_exx (c := "NoPicture") (S1 := S) (by simp [this])]
  rfl
theorem done_nodeeds {s : Nat × Nat} {g : Nat × Nat → Int} {y : D} {S : Sto} (hs : Sz s) (hc : Cells s g) (h : F_need_deeds [y] S = .exc "NoDeeds" S) : F_done [gridI s g, y] S = .exc "NoDeeds" S := by
  have e : F_done [gridI s g, y] S = bodyRes (b_done [some (gridI s g), some y] S) := rfl
  rw [e]
  unfold b_done
  have h1 := F_npic (S := S) (ty3_grid (s := s) (g := g))
  rw [isPic_grid hs hc, if_pos rfl] at h1
  rw [sq_ex (S1 := S) (d := .non) (by simp [h1]), sq_exx (c := "NoDeeds") (S1 := S) (by simp [h])]
  rfl
theorem size_nosize {x y d : D} {S : Sto} (hx : Ty S x) (hy : Ty S y) (h : (isW 1 8 x && isW 1 8 y) = false) : F_size [x, y, d] S = .exc "NoSize" S := by
  have e : F_size [x, y, d] S = bodyRes (b_size [some x, some y, some d, none] S) := rfl
  rw [e]
  unfold b_size
  have h1 := F_nsize hx hy
  rw [h] at h1
  rw [sq_exx (c := "NoSize") (S1 := S) (by simp; exact h1)]
  rfl
theorem isW_size {n : Nat} (h0 : 0 < n) (h8 : n ≤ 8) : isW 1 8 (.int n) = true := by simp [isW]; omega
theorem size_nodeeds {s : Nat × Nat} {d : D} {S : Sto} (hs : Sz s) (h : F_need_deeds [d] S = .exc "NoDeeds" S) : F_size [.int s.1, .int s.2, d] S = .exc "NoDeeds" S := by
  have e : F_size [.int s.1, .int s.2, d] S = bodyRes (b_size [some (.int s.1), some (.int s.2), some d, none] S) := rfl
  rw [e]
  unfold b_size
  have h1 := F_nsize (S := S) (x := .int s.1) (y := .int s.2) ty_int ty_int
  rw [isW_size hs.1 hs.2.2.1, isW_size hs.2.1 hs.2.2.2] at h1
  simp at h1
  rw [sq_ex (S1 := S) (d := .non) (by simp [h1]), sq_exx (c := "NoDeeds") (S1 := S) (by simp [h])]
  rfl
/-! ### four turns -/
theorem szs_turn4 (s : Nat × Nat) : szs [.turn, .turn, .turn, .turn] s = some s := rfl
theorem pos_turn4 {s p : Nat × Nat} (h : InS s p) : pos [.turn, .turn, .turn, .turn] s p = p := by
  unfold InS at h
  simp only [pos, mvP, mvS, Option.getD_some]
  refine Prod.ext ?_ ?_
  · simp; omega
  · simp; omega
def turns (n : Nat) : List Deed := List.replicate n .turn
theorem turns20 : turns 20 = [.turn, .turn, .turn, .turn] ++ ([.turn, .turn, .turn, .turn] ++ ([.turn, .turn, .turn, .turn] ++ ([.turn, .turn, .turn, .turn] ++ [.turn, .turn, .turn, .turn]))) := rfl
theorem szs_turns20 (s : Nat × Nat) : szs (turns 20) s = some s := rfl
theorem pos_turns20 {s p : Nat × Nat} (h : InS s p) : pos (turns 20) s p = p := by
  rw [turns20, pos_app _ _ s s _ rfl, pos_app _ _ s s _ rfl, pos_app _ _ s s _ rfl, pos_app _ _ s s _ rfl, pos_turn4 h, pos_turn4 h, pos_turn4 h, pos_turn4 h, pos_turn4 h]
theorem lgs_turns20 (x : Int) : lgs (turns 20) x = x := rfl
end Py
set_option maxRecDepth 100000
set_option maxHeartbeats 1000000
namespace Py
open PySem PySem.Spec PyProof.Rows L2
/-! ### table_of, same -/
noncomputable abbrev lp_tab : MS := sSet 1 (eCall F_lit (aCons (eVar 1) (aCons (eVar 2) aNil)))
theorem loop_tab {it : Its} (hi : it.guard = none) {Z : Option D} (S : Sto) : ∀ (ds : List Deed) (g : Nat → Int) (o2 : Option D),
    ∃ a, loopF it (gN 2) lp_tab (ds.map Deed.d) [Z, some (.tup (tb 10 fun k => .int (g k))), o2] S = .nx [Z, some (.tup (tb 10 fun k => .int (lgs ds (g k)))), a] S
  | [], g, o2 => ⟨o2, by simp only [List.map_nil, loopF, lgs, if_pos (show okG it S by unfold okG; rw [hi]; trivial)]⟩
  | d :: ds, g, o2 => by
    obtain ⟨a, ih⟩ := loop_tab hi (Z := Z) S ds (fun k => lgt d (g k)) (some d.d)
    refine ⟨a, ?_⟩
    have h1 := G_lit (n := 10) (g := g) d (by decide) S
    simp only [List.map_cons, loopF, if_pos (show okG it S by unfold okG; rw [hi]; trivial), gN, List.set_cons_succ, List.set_cons_zero]
    simp [lp_tab, sSet, h1, ih, lgs]
theorem rng_tb (n : Nat) : rngD 0 n = tb n fun k => .int k := by
  unfold rngD tb
  apply List.map_congr_left
  intro a _
  simp
def tabD (ds : List Deed) : List D := tb 10 fun k => .int (lgs ds k)
theorem G_table (ds : List Deed) (S : Sto) : F_table_of [deedsD ds] S = .ok (.tup (tabD ds)) S := by
  have e : F_table_of [deedsD ds] S = bodyRes (b_table_of [some (deedsD ds), none, none] S) := rfl
  rw [e]
  unfold b_table_of
  rw [sq_set (S1 := S) (d := .tup (tb 10 fun k => .int (k : Int))) (by
    simp only [eTupR, r1, ap_2, ap_c, ap_add, Res.bind_ok]
    rw [if_pos (by unfold rngOk; omega), ← rng_tb]
    rfl)]
  simp only [List.set_cons_succ, List.set_cons_zero]
  obtain ⟨a, h⟩ := loop_tab (it := ⟨ds.map Deed.d, none⟩) rfl (Z := some (deedsD ds)) S ds (fun k => (k : Int)) none
  have h' : sFor (iSeq (eVar 0)) (gN 2) lp_tab [some (deedsD ds), some (.tup (tb 10 fun k => .int (k : Int))), none] S = _ := h
  rw [sq_nx h', s_ret (S1 := S) (d := .tup (tabD ds)) rfl]
  rfl
theorem pl_tab (n : Nat) (ds : List Deed) : pl (n + 2) (.tup (tabD ds)) = true := pl_tb fun k => pl_int _ _
theorem pl_tabL (n : Nat) (ds : List Deed) : pl (n + 2) (.lst (tabD ds)) = true := by
  simp only [pl, tabD, tb_filter_all]
  simp
abbrev mapG (ds : List Deed) (s s' : Nat × Nat) : D := gridD s' fun p => ptD (pos ds s p)
theorem pl_pt (n : Nat) (p : Nat × Nat) : pl (n + 2) (ptD p) = true := by simp [ptD, pl]
theorem pl_mapG {ds : List Deed} {s s' : Nat × Nat} : pl 12 (mapG ds s s') = true := pl_gridD fun p => pl_pt _ _
open Classical in
theorem G_same {as bs : List Deed} {s s1 s2 : Nat × Nat} (hs : Sz s) (oa : as.all okDeed = true) (ob : bs.all okDeed = true) (la : as.length ≤ 20) (lb : bs.length ≤ 20) (ea : szs as s = some s1) (eb : szs bs s = some s2) (S : Sto) :
    F_same [.int s.1, .int s.2, deedsD as, deedsD bs] S = .ok (.bl (decide (mapG as s s1 = mapG bs s s2 ∧ tabD as = tabD bs))) S := by
  have e : F_same [.int s.1, .int s.2, deedsD as, deedsD bs] S = bodyRes (b_same [some (.int s.1), some (.int s.2), some (deedsD as), some (deedsD bs)] S) := rfl
  rw [e]
  unfold b_same
  have h1 := F_nsize (S := S) (x := .int s.1) (y := .int s.2) ty_int ty_int
  rw [isW_size hs.1 hs.2.2.1, isW_size hs.2.1 hs.2.2.2] at h1
  simp at h1
  have m1 := G_map_of hs oa S
  have m2 := G_map_of hs ob S
  rw [ea] at m1
  rw [eb] at m2
  simp only at m1 m2
  rw [sq_ex (S1 := S) (d := .non) (by simp [h1]), sq_ex (S1 := S) (d := .non) (by simp [F_ndeeds oa la S]), sq_ex (S1 := S) (d := .non) (by simp [F_ndeeds ob lb S])]
  by_cases c : mapG as s s1 = mapG bs s s2
  · have ne : eqD true (mapG as s s1) (mapG bs s s2) S = .ok (.bl false) S := by rw [eqD_pl pl_mapG pl_mapG]; simp [c]
    have eq : eqD false (.tup (tabD as)) (.tup (tabD bs)) S = .ok (.bl (decide (tabD as = tabD bs))) S := by rw [eqD_pl (pl_tab _ _) (pl_tab _ _)]; simp
    rw [sq_f (S1 := S) (by simp [m1, m2, ne]), s_ret (S1 := S) (d := .bl (decide (tabD as = tabD bs))) (by simp [G_table, eq])]
    simp [c]
  · have ne : eqD true (mapG as s s1) (mapG bs s s2) S = .ok (.bl true) S := by rw [eqD_pl pl_mapG pl_mapG]; simp [c]
    rw [sq_t (S1 := S) (by simp [m1, m2, ne]), sq_r (S1 := S) (d := .bl false) rfl]
    simp [c]
theorem G_sameX {as bs : List Deed} {s s1 : Nat × Nat} (hs : Sz s) (oa : as.all okDeed = true) (ob : bs.all okDeed = true) (la : as.length ≤ 20) (lb : bs.length ≤ 20) (ea : szs as s = some s1) (eb : szs bs s = none) (S : Sto) :
    F_same [.int s.1, .int s.2, deedsD as, deedsD bs] S = .exc "NoCut" S := by
  have e : F_same [.int s.1, .int s.2, deedsD as, deedsD bs] S = bodyRes (b_same [some (.int s.1), some (.int s.2), some (deedsD as), some (deedsD bs)] S) := rfl
  rw [e]
  unfold b_same
  have h1 := F_nsize (S := S) (x := .int s.1) (y := .int s.2) ty_int ty_int
  rw [isW_size hs.1 hs.2.2.1, isW_size hs.2.1 hs.2.2.2] at h1
  simp at h1
  have m1 := G_map_of hs oa S
  have m2 := G_map_of hs ob S
  rw [ea] at m1
  rw [eb] at m2
  simp only at m1 m2
  rw [sq_ex (S1 := S) (d := .non) (by simp [h1]), sq_ex (S1 := S) (d := .non) (by simp [F_ndeeds oa la S]), sq_ex (S1 := S) (d := .non) (by simp [F_ndeeds ob lb S])]
  rw [sq_exc (c := "NoCut") (S1 := S) (by simp [sIf, m1, m2])]
  rfl
theorem same_nosize {x y a b : D} {S : Sto} (hx : Ty S x) (hy : Ty S y) (h : (isW 1 8 x && isW 1 8 y) = false) : F_same [x, y, a, b] S = .exc "NoSize" S := by
  have e : F_same [x, y, a, b] S = bodyRes (b_same [some x, some y, some a, some b] S) := rfl
  rw [e]
  unfold b_same
  have h1 := F_nsize hx hy
  rw [h] at h1
  rw [sq_exx (c := "NoSize") (S1 := S) (by simp; exact h1)]
  rfl
theorem same_nodeeds1 {s : Nat × Nat} {a b : D} {S : Sto} (hs : Sz s) (h : F_need_deeds [a] S = .exc "NoDeeds" S) : F_same [.int s.1, .int s.2, a, b] S = .exc "NoDeeds" S := by
  have e : F_same [.int s.1, .int s.2, a, b] S = bodyRes (b_same [some (.int s.1), some (.int s.2), some a, some b] S) := rfl
  rw [e]
  unfold b_same
  have h1 := F_nsize (S := S) (x := .int s.1) (y := .int s.2) ty_int ty_int
  rw [isW_size hs.1 hs.2.2.1, isW_size hs.2.1 hs.2.2.2] at h1
  simp at h1
  rw [sq_ex (S1 := S) (d := .non) (by simp [h1]), sq_exx (c := "NoDeeds") (S1 := S) (by simp [h])]
  rfl
theorem same_nodeeds2 {s : Nat × Nat} {as : List Deed} {b : D} {S : Sto} (hs : Sz s) (oa : as.all okDeed = true) (la : as.length ≤ 20) (h : F_need_deeds [b] S = .exc "NoDeeds" S) : F_same [.int s.1, .int s.2, deedsD as, b] S = .exc "NoDeeds" S := by
  have e : F_same [.int s.1, .int s.2, deedsD as, b] S = bodyRes (b_same [some (.int s.1), some (.int s.2), some (deedsD as), some b] S) := rfl
  rw [e]
  unfold b_same
  have h1 := F_nsize (S := S) (x := .int s.1) (y := .int s.2) ty_int ty_int
  rw [isW_size hs.1 hs.2.2.1, isW_size hs.2.1 hs.2.2.2] at h1
  simp at h1
  rw [sq_ex (S1 := S) (d := .non) (by simp [h1]), sq_ex (S1 := S) (d := .non) (by simp [F_ndeeds oa la S]), sq_exx (c := "NoDeeds") (S1 := S) (by simp [h])]
  rfl
/-! ### _law_table -/
theorem kept_app (S extra : Sto) : KeptS S (S ++ extra) := ⟨by simp, fun i o hi h => by left; rwa [List.getElem?_append_left hi] at h⟩
noncomputable abbrev lp_cell : MS := sSet 2 (eCall F_law_worth (aCons (eVar 2) (aCons (eVar 3) aNil)))
theorem loop_cell {it : Its} (hi : it.guard = none) {Z M : Option D} (S : Sto) : ∀ (ds : List Deed) (x : Int) (o3 : Option D),
    ∃ a, loopF it (gN 3) lp_cell (ds.map Deed.d) [Z, M, some (.int x), o3] S = .nx [Z, M, some (.int (lgs ds x)), a] S
  | [], x, o3 => ⟨o3, by simp only [List.map_nil, loopF, lgs, if_pos (show okG it S by unfold okG; rw [hi]; trivial)]⟩
  | d :: ds, x, o3 => by
    obtain ⟨a, ih⟩ := loop_cell hi (Z := Z) (M := M) S ds (lgt d x) (some d.d)
    refine ⟨a, ?_⟩
    have h1 := H_worth d x S
    simp only [List.map_cons, loopF, if_pos (show okG it S by unfold okG; rw [hi]; trivial), gN, List.set_cons_succ, List.set_cons_zero]
    simp [lp_cell, sSet, h1, ih, lgs]
noncomputable abbrev lp_row : MS := (sSeq (sFor (iSeq (eVar 0)) (gN 3) lp_cell) (sExpr (eMethL appendD (eVar 1) (aCons (eVar 2) aNil))))
theorem loop_row {it : Its} (hi : it.guard = none) (ds : List Deed) (S : Sto) : ∀ (ks : List Nat) (acc : List D) (o2 o3 : Option D), acc.length + ks.length ≤ 1000 →
    ∃ a b, loopF it (gN 2) lp_row (ks.map fun (k : Nat) => D.int (k : Int)) [some (deedsD ds), some (.ref S.length), o2, o3] (S ++ [.lst acc]) = .nx [some (deedsD ds), some (.ref S.length), a, b] (S ++ [.lst (acc ++ ks.map fun (k : Nat) => D.int (lgs ds (k : Int)))])
  | [], acc, o2, o3, hl => ⟨o2, o3, by simp only [List.map_nil, loopF, List.append_nil, if_pos (show okG it _ by unfold okG; rw [hi]; trivial)]⟩
  | k :: ks, acc, o2, o3, hl => by
    simp only [List.length_cons] at hl
    obtain ⟨a3, h1⟩ := loop_cell (it := ⟨ds.map Deed.d, none⟩) rfl (Z := some (deedsD ds)) (M := some (.ref S.length)) (S ++ [.lst acc]) ds (k : Int) o3
    obtain ⟨a, b, ih⟩ := loop_row hi ds S ks (acc ++ [.int (lgs ds k)]) (some (.int (lgs ds k))) a3 (by simp; omega)
    refine ⟨a, b, ?_⟩
    simp only [List.map_cons, loopF, if_pos (show okG it _ by unfold okG; rw [hi]; trivial), gN, List.set_cons_succ, List.set_cons_zero]
    have hz : acc.length < sz := by unfold sz; omega
    have hb : lp_row [some (deedsD ds), some (.ref S.length), some (.int k), o3] (S ++ [.lst acc]) = .nx [some (deedsD ds), some (.ref S.length), some (.int (lgs ds k)), a3] (S ++ [.lst (acc ++ [.int (lgs ds k)])]) := by
      unfold lp_row
      have h1' : sFor (iSeq (eVar 0)) (gN 3) lp_cell [some (deedsD ds), some (.ref S.length), some (.int k), o3] (S ++ [.lst acc]) = _ := h1
      rw [sq_nx h1']
      simp [sExpr, lstOf, appendD, hz]
    rw [hb]
    simp only [ih, List.append_assoc, List.singleton_append]
theorem H_table (ds : List Deed) (S : Sto) : F_law_table [deedsD ds] S = .ok (.lst (tabD ds)) S := by
  have e : F_law_table [deedsD ds] S = leaveR S (bodyRes (b_law_table [some (deedsD ds), none, none, none] S)) := rfl
  rw [e]
  unfold b_law_table
  rw [sq_set (S1 := S ++ [.lst []]) (d := .ref S.length) (by simp)]
  simp only [List.set_cons_succ, List.set_cons_zero]
  obtain ⟨a, b, h⟩ := loop_row (it := ⟨rngD 0 10, none⟩) rfl ds S (List.range 10) [] none none (by simp)
  have hr : iRng1' (aCons (eC (.int 10)) aNil) [some (deedsD ds), some (.ref S.length), none, none] (S ++ [.lst []]) = .ok ⟨rngD 0 10, none⟩ (S ++ [.lst []]) := irng (n := 10) (by simp) (by decide)
  rw [sq_nx (show sFor _ (gN 2) lp_row _ _ = _ by
    simp only [sFor, hr, Res.then_ok]
    rw [show rngD 0 10 = (List.range 10).map fun (k : Nat) => D.int (k : Int) from rng_tb 10]
    exact h)]
  rw [s_ret (S1 := S ++ [.lst (tabD ds)]) (d := .ref S.length) (by simp [tabD, tb])]
  simp only [body_ret, leaveR]
  rw [if_pos (kept_app _ _)]
  have hd : dem 8 S.length (S ++ [.lst (tabD ds)]) (.ref S.length) = some (.lst (tabD ds)) := by
    have hg : (S ++ [O.lst (tabD ds)])[S.length]? = some (.lst (tabD ds)) := by simp
    have hm : demL (dem 7 S.length (S ++ [O.lst (tabD ds)])) (tabD ds) = some (tabD ds) := demL_same fun d hd => dem_lower 7 d (by obtain ⟨k, _, rfl⟩ := List.mem_map.1 hd; rfl)
    simp only [dem, Nat.lt_irrefl, if_false, hg, hm, Option.map_some]
  rw [hd]
  simp
end Py
set_option maxRecDepth 100000
set_option maxHeartbeats 1000000
namespace Py
open PySem PySem.Spec PyProof.Rows L2
/-! ### grids that are the same -/
theorem tb_inj {α : Type} {n m : Nat} {f g : Nat → α} (h : tb n f = tb m g) : n = m ∧ ∀ k, k < n → f k = g k := by
  have hl : n = m := by have := congrArg List.length h; simpa using this
  subst hl
  refine ⟨rfl, fun k hk => ?_⟩
  have := congrArg (·[k]?) h
  simpa [tb_get?, hk] using this
theorem gridD_inj {s1 s2 : Nat × Nat} {f g : Nat × Nat → D} (h0 : 0 < s1.2) (h : gridD s1 f = gridD s2 g) : s1 = s2 ∧ ∀ j k, j < s1.2 → k < s1.1 → f (j, k) = g (j, k) := by
  unfold gridD at h
  obtain ⟨e2, h2⟩ := tb_inj (D.tup.inj h)
  obtain ⟨e1, _⟩ := tb_inj (D.tup.inj (h2 0 h0))
  refine ⟨Prod.ext e1 e2, fun j k hj hk => ?_⟩
  exact (tb_inj (D.tup.inj (h2 j hj))).2 k hk
theorem ptD_inj {p q : Nat × Nat} (h : ptD p = ptD q) : p = q := by
  unfold ptD at h
  simp at h
  exact Prod.ext (by omega) (by omega)
/-- two rows of deeds that do the same at every cell -/
def Alike (as bs : List Deed) (s s1 s2 : Nat × Nat) : Prop := mapG as s s1 = mapG bs s s2 ∧ tabD as = tabD bs
theorem Alike.symm {as bs : List Deed} {s s1 s2 : Nat × Nat} (h : Alike as bs s s1 s2) : Alike bs as s s2 s1 := ⟨h.1.symm, h.2.symm⟩
theorem map_same {as bs : List Deed} {s s1 s2 : Nat × Nat} (h0 : 0 < s1.2) (h : mapG as s s1 = mapG bs s s2) : s1 = s2 ∧ ∀ p, InS s1 p → pos as s p = pos bs s p := by
  obtain ⟨e, h⟩ := gridD_inj h0 h
  exact ⟨e, fun p hp => ptD_inj (h p.1 p.2 hp.1 hp.2)⟩
theorem tab_same {as bs : List Deed} (h : tabD as = tabD bs) {x : Int} (h0 : 0 ≤ x) (h9 : x ≤ 9) : lgs as x = lgs bs x := by
  have := (tb_inj h).2 x.toNat (by omega)
  have e : ((x.toNat : Nat) : Int) = x := by omega
  rw [e] at this
  exact D.int.inj this
theorem tab_diff {as bs : List Deed} (h : tabD as ≠ tabD bs) : ∃ k : Nat, k < 10 ∧ lgs as k ≠ lgs bs k := by
  refine Classical.byContradiction fun c => h (tb_congr fun k hk => ?_)
  congr 1
  exact Classical.byContradiction fun z => c ⟨k, hk, z⟩
theorem alike_done {as bs : List Deed} {s s1 s2 : Nat × Nat} {g : Nat × Nat → Int} (h0 : 0 < s1.2) (ea : szs as s = some s1) (hc : Cells s g) (h : Alike as bs s s1 s2) :
    gridI s1 (fun p => lgs as (g (pos as s p))) = gridI s2 (fun p => lgs bs (g (pos bs s p))) := by
  obtain ⟨e, h1⟩ := map_same h0 h.1
  subst e
  unfold gridI
  refine gridD_congr fun j k hj hk => ?_
  have hi := pos_in (p := (j, k)) ea ⟨hj, hk⟩
  have hv := hc _ _ hi.1 hi.2
  have e := h1 (j, k) ⟨hj, hk⟩
  simp only [← e]
  congr 1
  exact tab_same h.2 hv.1 hv.2
/-- the law's numbers for places say the same -/
theorem code_same {as bs : List Deed} {s s1 s2 : Nat × Nat} (hs : Sz s) (h0 : 0 < s1.2) (ea : szs as s = some s1) (eb : szs bs s = some s2) :
    gridI s1 (fun p => codeV (pos as s p)) = gridI s2 (fun p => codeV (pos bs s p)) ↔ mapG as s s1 = mapG bs s s2 := by
  constructor
  · intro h
    obtain ⟨e, hh⟩ := gridD_inj h0 h
    subst e
    refine gridD_congr fun j k hj hk => ?_
    have h1 : codeV (pos as s (j, k)) = codeV (pos bs s (j, k)) := D.int.inj (hh j k hj hk)
    have p1 := pos_in (p := (j, k)) ea ⟨hj, hk⟩
    have p2 := pos_in (p := (j, k)) eb ⟨hj, hk⟩
    unfold InS at p1 p2
    unfold Sz at hs
    unfold codeV at h1
    have : pos as s (j, k) = pos bs s (j, k) := by
      refine Prod.ext ?_ ?_ <;> omega
    rw [this]
  · intro h
    obtain ⟨e, h1⟩ := map_same h0 h
    subst e
    unfold gridI
    refine gridD_congr fun j k hj hk => ?_
    have := h1 (j, k) ⟨hj, hk⟩
    simp only [this]
theorem rep1 (n : Nat) (x : D) : repD n [x] = tb n fun _ => x := by
  unfold repD
  refine tb_ext (by simp) fun k hk hn => ?_
  simp
theorem const_grid {s : Nat × Nat} (hs : Sz s) (c : Int) (S : Sto) : (mulD (.tup [.int c]) (.int s.1) S).bind (fun x S => mulD (.tup [x]) (.int s.2) S) = .ok (gridI s fun _ => c) S := by
  unfold Sz at hs
  simp only [mulD]
  rw [if_pos ⟨by omega, by omega, by simp⟩]
  simp only [Res.bind_ok]
  rw [if_pos ⟨by omega, by omega, by simp⟩]
  simp only [Int.toNat_natCast, rep1]
  rfl
theorem cells_const {s : Nat × Nat} {c : Int} (h0 : 0 ≤ c) (h9 : c ≤ 9) : Cells s fun _ => c := fun _ _ _ _ => ⟨h0, h9⟩
theorem eqD_bl (neg a b : Bool) (S : Sto) : eqD neg (.bl a) (.bl b) S = .ok (.bl (if neg then !(a == b) else a == b)) S := by simp [eqD, dP, toP, PyData.eqv]
/-! ### loops, the store growing -/
theorem loop_keepS {it : Its} (hi : it.guard = none) {g : MG} {body : MS} (I : Fr → Sto → Prop) : ∀ (xs : List D), (∀ x ∈ xs, ∀ fr S, I fr S → ∃ fr1 fr' S', g x fr = some fr1 ∧ body fr1 S = .nx fr' S' ∧ I fr' S') → ∀ fr S, I fr S → ∃ fr' S', loopF it g body xs fr S = .nx fr' S' ∧ I fr' S'
  | [], h, fr, S, hI => ⟨fr, S, by simp only [loopF, if_pos (show okG it S by unfold okG; rw [hi]; trivial)], hI⟩
  | x :: xs, h, fr, S, hI => by
    obtain ⟨fr1, fr', S', h1, h2, h3⟩ := h x (List.mem_cons_self ..) fr S hI
    obtain ⟨fr'', S'', h4, h5⟩ := loop_keepS hi I xs (fun y hy => h y (List.mem_cons_of_mem _ hy)) fr' S' h3
    refine ⟨fr'', S'', ?_, h5⟩
    simp only [loopF, if_pos (show okG it S by unfold okG; rw [hi]; trivial), h1, h2, h4]
theorem for_rng_keepS {f : MA} {i n : Nat} {body : MS} {S : Sto} {fr : Fr} (I : Fr → Sto → Prop) (hf : f fr S = .ok [.int (n : Int)] S) (hn : n ≤ 1000000) (h0 : I fr S) (h : ∀ k : Nat, k < n → ∀ fr S, I fr S → ∃ fr' S', body (fr.set i (some (.int k))) S = .nx fr' S' ∧ I fr' S') :
    ∃ fr' S', sFor (iRng1' f) (gN i) body fr S = .nx fr' S' ∧ I fr' S' := by
  have hr := irng hf hn
  obtain ⟨fr', S', h1, h2⟩ := loop_keepS (it := ⟨rngD 0 n, none⟩) rfl (g := gN i) (body := body) I (rngD 0 n) (fun x hx fr S hI => by
    obtain ⟨k, hk, rfl⟩ := List.mem_map.1 hx
    obtain ⟨fr', S', a, b⟩ := h k (List.mem_range.1 hk) fr S hI
    exact ⟨_, fr', S', rfl, by simpa using a, b⟩) fr S h0
  exact ⟨fr', S', by simp only [sFor, hr, Res.then_ok]; exact h1, h2⟩
/-- one of the turns answers -/
theorem loop_ret {it : Its} (hi : it.guard = none) {g : MG} {body : MS} {S : Sto} {d : D} (I : Fr → Prop) (B : D → Prop) : ∀ (xs : List D), (∃ x ∈ xs, B x) → (∀ x ∈ xs, ∀ fr, I fr → ∃ fr1, g x fr = some fr1 ∧ (body fr1 S = .ret d S ∨ ¬ B x ∧ ∃ fr', body fr1 S = .nx fr' S ∧ I fr')) → ∀ fr, I fr → loopF it g body xs fr S = .ret d S
  | [], hb, h, fr, hI => by obtain ⟨x, hx, _⟩ := hb; cases hx
  | x :: xs, hb, h, fr, hI => by
    obtain ⟨fr1, h1, h2⟩ := h x (List.mem_cons_self ..) fr hI
    simp only [loopF, if_pos (show okG it S by unfold okG; rw [hi]; trivial), h1]
    rcases h2 with h2 | ⟨nb, fr', h2, h3⟩
    · rw [h2]
    · rw [h2]
      obtain ⟨y, hy, hyb⟩ := hb
      rcases List.mem_cons.1 hy with rfl | hy
      · exact absurd hyb nb
      · exact loop_ret hi I B xs ⟨y, hy, hyb⟩ (fun z hz => h z (List.mem_cons_of_mem _ hz)) fr' h3
theorem tb_set {α : Type} {n a : Nat} {f : Nat → α} {x : α} : (tb n f).set a x = tb n (fun k => if k = a then x else f k) := by
  refine tb_ext (by simp) fun k hk hn => ?_
  rw [List.getElem_set]
  by_cases c : a = k
  · simp [c]
  · rw [if_neg c, if_neg (by omega)]
    simp
theorem tb_succ {α : Type} {n : Nat} {f : Nat → α} : tb (n + 1) f = tb n f ++ [f n] := by
  unfold tb
  rw [List.range_succ, List.map_append]
  rfl
theorem ixN_nat {n k : Nat} (h : k < n) : ixN n (k : Int) = some k := by
  unfold ixN
  simp [h]
theorem lput_eq {f fo fi : ME} {fr : Fr} {S S1 S2 S3 : Sto} {x : D} {n k : Nat} {xs : List D} (h1 : f fr S = .ok x S1) (h2 : fo fr S1 = .ok (.ref n) S2) (h3 : fi fr S2 = .ok (.int (k : Int)) S3) (h4 : S3[n]? = some (.lst xs)) (h5 : k < xs.length) : sLput f fo fi fr S = .nx fr (S3.set n (.lst (xs.set k x))) := by
  simp only [sLput, h1, h2, h3, h4, Res.then_ok, ixN_nat h5]
end Py
set_option maxRecDepth 100000
set_option maxHeartbeats 1000000
namespace Py
open PySem PySem.Spec PyProof.Rows L2
/-! ### the least of data -/
section
open PySem.W
theorem lt_self (x : PyData) : dataLt x x = false := lex_irrefl _
theorem lt_trans' {x y z : PyData} (h : dataLt x y = true) (k : dataLt y z = true) : dataLt x z = true := lex_trans _ _ _ h k
theorem minD_ok (P : PyData → Prop) : ∀ (xs : List PyData) (x : PyData), (PySem.W.minD x xs ∈ x :: xs) ∧ ∀ y ∈ x :: xs, dataLt y (PySem.W.minD x xs) = false
  | [], x => ⟨by simp [PySem.W.minD], fun y hy => by rw [List.mem_singleton] at hy; subst hy; exact lt_self _⟩
  | z :: xs, x => by
    obtain ⟨h1, h2⟩ := minD_ok P xs (if dataLt z x then z else x)
    have e : PySem.W.minD x (z :: xs) = PySem.W.minD (if dataLt z x then z else x) xs := rfl
    rw [e]
    refine ⟨?_, fun y hy => ?_⟩
    · rcases List.mem_cons.1 h1 with h | h
      · rw [h]; split <;> simp
      · simp [h]
    · have h0 := h2 _ (List.mem_cons_self ..)
      rcases List.mem_cons.1 hy with rfl | hy
      · by_cases c : dataLt z y = true
        · rw [if_pos c] at h0 ⊢
          cases q : dataLt y (PySem.W.minD z xs) with
          | false => rfl
          | true => rw [lt_trans' c q] at h0; exact h0
        · rw [if_neg c] at h0 ⊢; exact h0
      rcases List.mem_cons.1 hy with rfl | hy
      · by_cases c : dataLt y x = true
        · rw [if_pos c] at h0 ⊢; exact h0
        · rw [if_neg c] at h0 h1 h2 ⊢
          cases q : dataLt y (PySem.W.minD x xs) with
          | false => rfl
          | true =>
            have hx : PySem.W.minD x xs ∈ x :: xs := h1
            by_cases w : dataLt x (PySem.W.minD x xs) = true
            · rw [h0] at w; cases w
            · have c' : dataLt y x = false := by simpa using c
              have w' : dataLt (PySem.W.minD x xs) x = true ∨ keyToks (PySem.W.minD x xs) = keyToks x := by
                cases w2 : dataLt (PySem.W.minD x xs) x with
                | true => exact .inl rfl
                | false => exact .inr (lex_total _ _ w2 h0)
              rcases w' with w' | w'
              · rw [lt_trans' q w'] at c'; cases c'
              · unfold dataLt at q c'; rw [w'] at q; rw [q] at c'; cases c'
      · exact h2 y (List.mem_cons_of_mem _ hy)
theorem toks_eq {x y : PyData} (h : alike x y = true) (e : keyToks x = keyToks y) : PyData.eqv x y = true := by
  cases q : PyData.eqv x y with
  | true => rfl
  | false =>
    have := (toks_eqv x y h).2 q [] [.inl 0]
    rw [e, lex_pre, lex_irrefl] at this
    revert this
    decide
theorem alikeAll_of : ∀ {xs ys : List PyData}, (∀ x ∈ xs, ∀ y ∈ ys, alike x y = true) → alikeAll xs ys = true
  | [], ys, h => by simp [alikeAll]
  | x :: xs, [], h => by simp [alikeAll]
  | x :: xs, y :: ys, h => by
    rw [alikeAll, h x (List.mem_cons_self ..) y (List.mem_cons_self ..), alikeAll_of fun a ha b hb => h a (List.mem_cons_of_mem _ ha) b (List.mem_cons_of_mem _ hb)]
    rfl
theorem mem_tb {α : Type} {n : Nat} {f : Nat → α} {x : α} (h : x ∈ tb n f) : ∃ k, k < n ∧ x = f k := by
  unfold tb at h
  obtain ⟨k, hk, rfl⟩ := List.mem_map.1 h
  exact ⟨k, List.mem_range.1 hk, rfl⟩
def gP (s : Nat × Nat) (g : Nat × Nat → Int) : PyData := .tuple (tb s.2 fun j => .tuple (tb s.1 fun k => .int (g (j, k))))
theorem alike_gP {s t : Nat × Nat} {g h : Nat × Nat → Int} : alike (gP s g) (gP t h) = true := by
  unfold gP
  rw [alike]
  refine alikeAll_of fun x hx y hy => ?_
  obtain ⟨j, _, rfl⟩ := mem_tb hx
  obtain ⟨j', _, rfl⟩ := mem_tb hy
  rw [alike]
  refine alikeAll_of fun x hx y hy => ?_
  obtain ⟨k, _, rfl⟩ := mem_tb hx
  obtain ⟨k', _, rfl⟩ := mem_tb hy
  rw [alike]
end
theorem toPs_tb {f : D → Option PyData} {n : Nat} {g : Nat → D} {φ : Nat → PyData} (h : ∀ k, k < n → f (g k) = some (φ k)) : toPs f (tb n g) = some (tb n φ) := by
  induction n with
  | zero => rfl
  | succ n ih =>
    have : ∀ (as bs : List D) (ps qs : List PyData), toPs f as = some ps → toPs f bs = some qs → toPs f (as ++ bs) = some (ps ++ qs) := by
      intro as
      induction as with
      | nil => intro bs ps qs h1 h2; cases h1; exact h2
      | cons a as ih =>
        intro bs ps qs h1 h2
        simp only [toPs] at h1
        split at h1
        · rename_i p ps' e1 e2
          cases h1
          simp only [List.cons_append, toPs, e1, ih bs ps' qs e2 h2]
        · cases h1
    rw [tb_succ, tb_succ]
    exact this _ _ _ _ (ih fun k hk => h k (by omega)) (by simp only [toPs, h n (by omega)])
theorem toP_grid (n : Nat) (S : Sto) (s : Nat × Nat) (g : Nat × Nat → Int) : toP (n + 3) S (gridI s g) = some (gP s g) := by
  unfold gridI gridD gP
  simp only [toP]
  rw [toPs_tb (φ := fun j => .tuple (tb s.1 fun k => .int (g (j, k)))) (fun j _ => ?_)]
  · rfl
  · simp only [toP]
    rw [toPs_tb (φ := fun k => .int (g (j, k))) (fun k _ => ?_)]
    · rfl
    · simp only [toP]
def IsG (d : D) : Prop := ∃ s g, d = gridI s g
noncomputable def pdt (d : D) : PyData := (toP 11 [] d).getD .none
theorem pdt_grid (s : Nat × Nat) (g : Nat × Nat → Int) : pdt (gridI s g) = gP s g := by unfold pdt; rw [toP_grid 8]; rfl
theorem IsG.toP {d : D} (h : IsG d) (S : Sto) : toP 11 S d = some (pdt d) := by
  obtain ⟨s, g, rfl⟩ := h
  rw [toP_grid 8, pdt_grid]
theorem IsG.alike {d e : D} (h : IsG d) (k : IsG e) : PySem.W.alike (pdt d) (pdt e) = true := by
  obtain ⟨s, g, rfl⟩ := h
  obtain ⟨t, g', rfl⟩ := k
  rw [pdt_grid, pdt_grid]
  exact alike_gP
theorem IsG.inj {d e : D} (h : IsG d) (k : IsG e) (q : PySem.W.keyToks (pdt d) = PySem.W.keyToks (pdt e)) : d = e := by
  have a := toks_eq (h.alike k) q
  obtain ⟨s, g, rfl⟩ := h
  obtain ⟨t, g', rfl⟩ := k
  exact (pl_eqv (S := []) 11 _ _ _ _ pl_grid pl_grid (IsG.toP ⟨s, g, rfl⟩ []) (IsG.toP ⟨t, g', rfl⟩ [])).1 a
/-- the least of grids -/
def Min (ds : List D) (e : D) : Prop := e ∈ ds ∧ ∀ y ∈ ds, PySem.W.dataLt (pdt y) (pdt e) = false
open Classical in
noncomputable def leastD (ds : List D) : D := if h : ∃ e, Min ds e then Classical.choose h else .non
theorem Min.uniq {ds : List D} (hg : ∀ d ∈ ds, IsG d) {e e' : D} (h : Min ds e) (k : Min ds e') : e = e' :=
  (hg e h.1).inj (hg e' k.1) (lex_total _ _ (k.2 e h.1) (h.2 e' k.1))
theorem toPs_G {S : Sto} : ∀ {ds : List D}, (∀ d ∈ ds, IsG d) → toPs (toP 11 S) ds = some (ds.map pdt)
  | [], _ => rfl
  | d :: ds, h => by
    simp only [toPs, (h d (List.mem_cons_self ..)).toP S, toPs_G fun d hd => h d (List.mem_cons_of_mem _ hd), List.map_cons]
theorem Min.ex {ds : List D} (hne : ds ≠ []) : ∃ e, Min ds e ∧ pdt e = PySem.W.minD ((ds.map pdt).headD .none) (ds.map pdt).tail := by
  obtain ⟨d, r, rfl⟩ : ∃ d r, ds = d :: r := by
    cases ds with
    | nil => exact absurd rfl hne
    | cons d r => exact ⟨d, r, rfl⟩
  obtain ⟨h1, h2⟩ := minD_ok (fun _ => True) (r.map pdt) (pdt d)
  rw [← List.map_cons] at h1 h2
  obtain ⟨e, he, q⟩ := List.mem_map.1 h1
  exact ⟨e, ⟨he, fun y hy => by rw [q]; exact h2 _ (List.mem_map_of_mem hy)⟩, q⟩
theorem leastD_ok {ds : List D} (hne : ds ≠ []) : Min ds (leastD ds) := by
  obtain ⟨e, h, _⟩ := Min.ex hne
  have : ∃ e, Min ds e := ⟨e, h⟩
  unfold leastD
  rw [dif_pos this]
  exact Classical.choose_spec this
theorem leastD_congr {ds es : List D} (h : ∀ x, x ∈ ds ↔ x ∈ es) : leastD ds = leastD es := by
  have e : Min ds = Min es := by
    funext x
    apply propext
    unfold Min
    constructor
    · rintro ⟨a, b⟩; exact ⟨(h x).1 a, fun y hy => b y ((h y).2 hy)⟩
    · rintro ⟨a, b⟩; exact ⟨(h x).2 a, fun y hy => b y ((h y).1 hy)⟩
  unfold leastD
  rw [e]
theorem min_grids {ds : List D} (hne : ds ≠ []) (hg : ∀ d ∈ ds, IsG d) (S : Sto) : minTD [.lst ds] S = .ok (leastD ds) S := by
  obtain ⟨e, hm, q⟩ := Min.ex hne
  have el : e = leastD ds := hm.uniq hg (leastD_ok hne)
  obtain ⟨d, r, rfl⟩ : ∃ d r, ds = d :: r := by
    cases ds with
    | nil => exact absurd rfl hne
    | cons d r => exact ⟨d, r, rfl⟩
  have hP := toPs_G (S := S) hg
  rw [List.map_cons] at hP q
  unfold minTD
  simp only [lstOf_lst, hP]
  have q' : pdt e = PySem.W.minD (pdt d) (r.map pdt) := q
  have hc : PySem.W.AlikeAll (pdt d :: r.map pdt) ∧ ∃ e, ∀ e' ∈ d :: r, toP 11 S e' = some (PySem.W.minD (pdt d) (r.map pdt)) → e' = e := by
    refine ⟨⟨fun x hx y hy => ?_, fun x hx => ?_⟩, e, fun e' he' h' => ?_⟩
    · rw [← List.map_cons] at hx hy
      obtain ⟨x', hx', rfl⟩ := List.mem_map.1 hx
      obtain ⟨y', hy', rfl⟩ := List.mem_map.1 hy
      exact (hg _ hx').alike (hg _ hy')
    · rw [← List.map_cons] at hx
      obtain ⟨x', hx', rfl⟩ := List.mem_map.1 hx
      obtain ⟨s, g, rfl⟩ := hg _ hx'
      rw [pdt_grid]; intro z; cases z
    · rw [(hg e' he').toP S] at h'
      cases h'' : (rfl : pdt e' = pdt e')
      rw [← q'] at h'
      exact (hg e' he').inj (hg e hm.1) (by rw [Option.some.inj h'])
  rw [dif_pos hc]
  have := Classical.choose_spec hc.2 e hm.1 (by rw [(hg e hm.1).toP S, q'])
  rw [← this, el]
/-! ### kin -/
abbrev Pic := (Nat × Nat) × (Nat × Nat → Int)
def gr (x : Pic) : D := gridI x.1 x.2
def tn (x : Pic) : Pic := ((x.1.2, x.1.1), fun p => x.2 (x.1.2 - 1 - p.2, p.1))
def mi (x : Pic) : Pic := (x.1, fun p => x.2 (p.1, x.1.1 - 1 - p.2))
def OkP (x : Pic) : Prop := Sz x.1 ∧ Cells x.1 x.2
def kinL (x : Pic) : List Pic := [x, tn x, tn (tn x), tn (tn (tn x)), mi x, tn (mi x), tn (tn (mi x)), tn (tn (tn (mi x)))]
abbrev kinD (x : Pic) : List D := (kinL x).map gr
theorem gr_congr {x y : Pic} (hs : x.1 = y.1) (h : ∀ j k, j < x.1.2 → k < x.1.1 → x.2 (j, k) = y.2 (j, k)) : gr x = gr y := by
  unfold gr gridI
  rw [← hs]
  exact gridD_congr fun j k hj hk => by rw [h j k hj hk]
theorem gr_inj {x y : Pic} (h0 : 0 < x.1.2) (h : gr x = gr y) : x.1 = y.1 ∧ ∀ j k, j < x.1.2 → k < x.1.1 → x.2 (j, k) = y.2 (j, k) := by
  obtain ⟨a, b⟩ := gridD_inj (s1 := x.1) (s2 := y.1) (f := fun p => .int (x.2 p)) (g := fun p => .int (y.2 p)) h0 h
  exact ⟨a, fun j k hj hk => D.int.inj (b j k hj hk)⟩
theorem OkP.tn {x : Pic} (h : OkP x) : OkP (tn x) := ⟨⟨h.1.2.1, h.1.1, h.1.2.2.2, h.1.2.2.1⟩, fun j k hj hk => by
  simp only [Py.tn] at hj hk ⊢
  exact h.2 _ _ (by omega) (by omega)⟩
theorem OkP.mi {x : Pic} (h : OkP x) : OkP (mi x) := ⟨h.1, fun j k hj hk => by
  simp only [Py.mi] at hj hk ⊢
  exact h.2 _ _ hj (by omega)⟩
theorem tn_congr {x y : Pic} (h0 : 0 < x.1.2) (h : gr x = gr y) : gr (tn x) = gr (tn y) := by
  obtain ⟨a, b⟩ := gr_inj h0 h
  refine gr_congr (by simp only [tn, a]) fun j k hj hk => ?_
  simp only [tn] at hj hk ⊢
  rw [← a]
  exact b _ _ (by omega) (by omega)
theorem mi_congr {x y : Pic} (h0 : 0 < x.1.2) (h : gr x = gr y) : gr (mi x) = gr (mi y) := by
  obtain ⟨a, b⟩ := gr_inj h0 h
  refine gr_congr (by simp only [mi, a]) fun j k hj hk => ?_
  simp only [mi] at hj hk ⊢
  rw [← a]
  exact b _ _ hj (by omega)
theorem tn4 {x : Pic} : gr (tn (tn (tn (tn x)))) = gr x := gr_congr rfl fun j k hj hk => by
  simp only [tn] at hj hk ⊢
  refine congrArg x.2 (Prod.ext ?_ ?_) <;> first | (dsimp only; done) | (dsimp only; omega)
theorem mi2 {x : Pic} : gr (mi (mi x)) = gr x := gr_congr rfl fun j k hj hk => by
  simp only [mi] at hj hk ⊢
  refine congrArg x.2 (Prod.ext ?_ ?_) <;> first | (dsimp only; done) | (dsimp only; omega)
theorem mi_tn {x : Pic} : gr (mi (tn x)) = gr (tn (tn (tn (mi x)))) := gr_congr rfl fun j k hj hk => by
  simp only [mi, tn] at hj hk ⊢
  refine congrArg x.2 (Prod.ext ?_ ?_) <;> first | (dsimp only; done) | (dsimp only; omega)
theorem kin_congr {x y : Pic} (hx : OkP x) (h : gr x = gr y) : kinD x = kinD y := by
  have p := fun z : Pic => fun (hz : OkP z) => hz.1.2.1
  have h1 := tn_congr (p _ hx) h
  have h2 := tn_congr (p _ hx.tn) h1
  have h3 := tn_congr (p _ hx.tn.tn) h2
  have m0 := mi_congr (p _ hx) h
  have m1 := tn_congr (p _ hx.mi) m0
  have m2 := tn_congr (p _ hx.mi.tn) m1
  have m3 := tn_congr (p _ hx.mi.tn.tn) m2
  simp only [kinD, kinL, List.map_cons, List.map_nil, h, h1, h2, h3, m0, m1, m2, m3]
theorem kin_tn {x : Pic} (hx : OkP x) (d : D) : d ∈ kinD (tn x) ↔ d ∈ kinD x := by
  have p := fun z : Pic => fun (hz : OkP z) => hz.1.2.1
  have a := mi_tn (x := x)
  have a1 := tn_congr (p _ hx.tn.mi) a
  have a2 := tn_congr (p _ hx.tn.mi.tn) a1
  have a3 := tn_congr (p _ hx.tn.mi.tn.tn) a2
  rw [tn4] at a1
  have b1 := tn_congr (p _ hx.tn.mi.tn) a1
  have b2 := tn_congr (p _ hx.tn.mi.tn.tn) b1
  simp only [kinD, kinL, List.map_cons, List.map_nil, List.mem_cons, List.not_mem_nil, or_false, tn4, a, a1, b1, b2]
  constructor
  · rintro (h | h | h | h | h | h | h | h) <;> simp [h]
  · rintro (h | h | h | h | h | h | h | h) <;> simp [h]
theorem kin_mi {x : Pic} (hx : OkP x) (d : D) : d ∈ kinD (mi x) ↔ d ∈ kinD x := by
  have p := fun z : Pic => fun (hz : OkP z) => hz.1.2.1
  have a := mi2 (x := x)
  have a1 := tn_congr (p _ hx.mi.mi) a
  have a2 := tn_congr (p _ hx.mi.mi.tn) a1
  have a3 := tn_congr (p _ hx.mi.mi.tn.tn) a2
  simp only [kinD, kinL, List.map_cons, List.map_nil, List.mem_cons, List.not_mem_nil, or_false, a, a1, a2, a3]
  constructor
  · rintro (h | h | h | h | h | h | h | h) <;> simp [h]
  · rintro (h | h | h | h | h | h | h | h) <;> simp [h]
theorem kinL_ok {x z : Pic} (hx : OkP x) (hz : z ∈ kinL x) : OkP z := by
  simp only [kinL, List.mem_cons, List.not_mem_nil, or_false] at hz
  rcases hz with rfl | rfl | rfl | rfl | rfl | rfl | rfl | rfl
  · exact hx
  · exact hx.tn
  · exact hx.tn.tn
  · exact hx.tn.tn.tn
  · exact hx.mi
  · exact hx.mi.tn
  · exact hx.mi.tn.tn
  · exact hx.mi.tn.tn.tn
theorem kinL_kin {x z : Pic} (hx : OkP x) (hz : z ∈ kinL x) (d : D) : d ∈ kinD z ↔ d ∈ kinD x := by
  simp only [kinL, List.mem_cons, List.not_mem_nil, or_false] at hz
  rcases hz with rfl | rfl | rfl | rfl | rfl | rfl | rfl | rfl
  · exact Iff.rfl
  · exact kin_tn hx d
  · rw [kin_tn hx.tn, kin_tn hx]
  · rw [kin_tn hx.tn.tn, kin_tn hx.tn, kin_tn hx]
  · exact kin_mi hx d
  · rw [kin_tn hx.mi, kin_mi hx]
  · rw [kin_tn hx.mi.tn, kin_tn hx.mi, kin_mi hx]
  · rw [kin_tn hx.mi.tn.tn, kin_tn hx.mi.tn, kin_tn hx.mi, kin_mi hx]
theorem kin_mem {x y : Pic} (hx : OkP x) (h : gr y ∈ kinD x) (d : D) : d ∈ kinD y ↔ d ∈ kinD x := by
  obtain ⟨z, hz, e⟩ := List.mem_map.1 h
  rw [← kin_congr (kinL_ok hx hz) e, kinL_kin hx hz]
theorem kin_self (x : Pic) : gr x ∈ kinD x := by simp [kinD, kinL]
theorem kin_G {x : Pic} : ∀ d ∈ kinD x, IsG d := fun d hd => by
  obtain ⟨z, _, rfl⟩ := List.mem_map.1 hd
  exact ⟨z.1, z.2, rfl⟩
/-- the least of the kin -/
noncomputable def least (x : Pic) : D := leastD (kinD x)
theorem least_iff {x y : Pic} (hx : OkP x) (hy : OkP y) : least x = least y ↔ gr y ∈ kinD x := by
  constructor
  · intro h
    have a := (leastD_ok (ds := kinD x) (by simp [kinD, kinL])).1
    have b := (leastD_ok (ds := kinD y) (by simp [kinD, kinL])).1
    rw [show leastD (kinD x) = leastD (kinD y) from h] at a
    obtain ⟨z, hz, e⟩ := List.mem_map.1 b
    rw [← e] at a
    exact (kin_mem hx a (gr y)).1 ((kinL_kin hy hz (gr y)).2 (kin_self y))
  · intro h
    exact leastD_congr fun d => (kin_mem hx h d).symm
end Py
set_option maxRecDepth 100000
set_option maxHeartbeats 1000000
namespace Py
open PySem PySem.Spec PyProof.Rows L2
theorem le8 {n : Nat} (h : n ≤ 8) : n ≤ 1000 := Nat.le_trans h (by decide)
theorem gr_turned {x : Pic} (hx : OkP x) (S : Sto) : F_turned_rows [gr x] S = .ok (gr (tn x)) S := by
  have := G_turned (s := x.1) (f := fun p => .int (x.2 p)) hx.1.2.1 (le8 hx.1.2.2.1) (le8 hx.1.2.2.2) S
  exact this
theorem gr_mirrored {x : Pic} (hx : OkP x) (S : Sto) : F_mirrored_rows [gr x] S = .ok (gr (mi x)) S := by
  have := G_mirrored (s := x.1) (f := fun p => .int (x.2 p)) (le8 hx.1.2.2.2) S
  exact this
theorem hr_turned {x : Pic} (hx : OkP x) (S : Sto) : F_law_turned [gr x] S = .ok (gr (tn x)) S := by
  have := H_turned (s := x.1) (f := fun p => .int (x.2 p)) hx.1.2.1 (le8 hx.1.2.2.1) (le8 hx.1.2.2.2) S
  exact this
theorem hr_mirrored {x : Pic} (hx : OkP x) (S : Sto) : F_law_mirrored [gr x] S = .ok (gr (mi x)) S := by
  have := H_mirrored (s := x.1) (f := fun p => .int (x.2 p)) (le8 hx.1.2.2.1) (le8 hx.1.2.2.2) S
  exact this
theorem gr_need {x : Pic} (hx : OkP x) (S : Sto) : F_need_picture [gr x] S = .ok .non S := by
  unfold gr
  rw [F_npic ty3_grid, isPic_grid hx.1 hx.2]; rfl
theorem pl_gr (n : Nat) (x : Pic) : pl (n + 3) (gr x) = true := pl_grid
theorem top_ap {S : Sto} {acc : List D} {x : D} (h : acc.length < 1000000) : appendD (.ref S.length) [x] (S ++ [.lst acc]) = .ok .non (S ++ [.lst (acc ++ [x])]) := by
  have : acc.length < sz := h
  simp [appendD, this]
theorem top_ls {S : Sto} {acc : List D} : lstOf (S ++ [.lst acc]) (.ref S.length) = some acc := by simp [lstOf]
noncomputable abbrev lp_kin (FT : List D → Sto → Res D) : MS := sSeq (sExpr (eMethL appendD (eVar 1) (aCons (eVar 2) aNil))) (sSet 2 (eCall FT (aCons (eVar 2) aNil)))
theorem kin_step {FT : List D → Sto → Res D} (hT : ∀ x, OkP x → ∀ S, FT [gr x] S = .ok (gr (tn x)) S) {x : Pic} (hx : OkP x) {S : Sto} {acc : List D} (hl : acc.length < 1000) (z o3 : Option D) :
    lp_kin FT [z, some (.ref S.length), some (gr x), o3] (S ++ [.lst acc]) = .nx [z, some (.ref S.length), some (gr (tn x)), o3] (S ++ [.lst (acc ++ [gr x])]) := by
  unfold lp_kin
  rw [sq_ex (S1 := S ++ [.lst (acc ++ [gr x])]) (d := .non) (by simp only [eMethL, ap_var, List.getElem?_cons_succ, List.getElem?_cons_zero, Res.bind_ok, top_ls, ap_cons, ap_nil]; exact top_ap (by omega))]
  simp [sSet, hT x hx]
theorem loopF_cons {it : Its} (hi : it.guard = none) {g : MG} {body : MS} {d : D} {ds : List D} {fr fr1 fr2 : Fr} {S S2 : Sto} (h1 : g d fr = some fr1) (h2 : body fr1 S = .nx fr2 S2) : loopF it g body (d :: ds) fr S = loopF it g body ds fr2 S2 := by
  simp only [loopF, if_pos (show okG it S by unfold okG; rw [hi]; trivial), h1, h2]
theorem loopF_nil {it : Its} (hi : it.guard = none) {g : MG} {body : MS} {fr : Fr} {S : Sto} : loopF it g body [] fr S = .nx fr S := by
  simp only [loopF, if_pos (show okG it S by unfold okG; rw [hi]; trivial)]
theorem kin_four {FT : List D → Sto → Res D} (hT : ∀ x, OkP x → ∀ S, FT [gr x] S = .ok (gr (tn x)) S) {x : Pic} (hx : OkP x) {S : Sto} {acc : List D} (hl : acc.length < 900) (z o3 : Option D) :
    sFor (iRng1' (aCons (eC (.int 4)) aNil)) (gN 3) (lp_kin FT) [z, some (.ref S.length), some (gr x), o3] (S ++ [.lst acc]) = .nx [z, some (.ref S.length), some (gr (tn (tn (tn (tn x))))), some (.int 3)] (S ++ [.lst (acc ++ [gr x, gr (tn x), gr (tn (tn x)), gr (tn (tn (tn x)))])]) := by
  have hr : iRng1' (aCons (eC (.int 4)) aNil) [z, some (.ref S.length), some (gr x), o3] (S ++ [.lst acc]) = .ok ⟨rngD 0 4, none⟩ (S ++ [.lst acc]) := irng (n := 4) (by simp) (by decide)
  simp only [sFor, hr, Res.then_ok]
  rw [show (rngD 0 4) = [.int 0, .int 1, .int 2, .int 3] from rfl]
  have st := fun (y : Pic) (hy : OkP y) (a : List D) (ha : a.length < 1000) (o : Option D) => kin_step hT hy (S := S) (acc := a) ha z o
  rw [loopF_cons rfl (g := gN 3) rfl (st x hx acc (by omega) _)]
  rw [loopF_cons rfl (g := gN 3) rfl (st _ hx.tn _ (by simp; omega) _)]
  rw [loopF_cons rfl (g := gN 3) rfl (st _ hx.tn.tn _ (by simp; omega) _)]
  rw [loopF_cons rfl (g := gN 3) rfl (st _ hx.tn.tn.tn _ (by simp; omega) _)]
  rw [loopF_nil rfl]
  simp
theorem kin_body {FT FM : List D → Sto → Res D} (hT : ∀ x, OkP x → ∀ S, FT [gr x] S = .ok (gr (tn x)) S) (hM : ∀ x, OkP x → ∀ S, FM [gr x] S = .ok (gr (mi x)) S) {x : Pic} (hx : OkP x) (S : Sto) :
    fnD 1 4 (sSeq (sSet 1 (eNewL aNil)) (sSeq (sFor (iSeq (eTup (aCons (eVar 0) (aCons (eCall FM (aCons (eVar 0) aNil)) aNil)))) (gN 2) (sFor (iRng1' (aCons (eC (.int 4)) aNil)) (gN 3) (lp_kin FT))) (sRet (eVar 1)))) [gr x] S = .ok (.lst (kinD x)) S := by
  show leaveR S (bodyRes (sSeq (sSet 1 (eNewL aNil)) _ [some (gr x), none, none, none] S)) = _
  rw [sq_set (S1 := S ++ [.lst []]) (d := .ref S.length) (by simp)]
  simp only [List.set_cons_succ, List.set_cons_zero]
  have f : sFor (iSeq (eTup (aCons (eVar 0) (aCons (eCall FM (aCons (eVar 0) aNil)) aNil)))) (gN 2) (sFor (iRng1' (aCons (eC (.int 4)) aNil)) (gN 3) (lp_kin FT)) [some (gr x), some (.ref S.length), none, none] (S ++ [.lst []]) =
      .nx [some (gr x), some (.ref S.length), some (gr (tn (tn (tn (tn (mi x)))))), some (.int 3)] (S ++ [.lst (kinD x)]) := by
    have hi : iSeq (eTup (aCons (eVar 0) (aCons (eCall FM (aCons (eVar 0) aNil)) aNil))) [some (gr x), some (.ref S.length), none, none] (S ++ [.lst []]) = .ok ⟨[gr x, gr (mi x)], none⟩ (S ++ [.lst []]) := by
      simp [iSeq, hM x hx, seqIts]
    simp only [sFor, hi, Res.then_ok]
    have k4 := fun (y : Pic) (hy : OkP y) (a : List D) (ha : a.length < 900) (o : Option D) => kin_four hT hy (S := S) (acc := a) ha (some (gr x)) o
    simp only [sFor] at k4
    rw [loopF_cons rfl (g := gN 2) rfl (k4 x hx [] (by simp) _)]
    rw [loopF_cons rfl (g := gN 2) rfl (k4 (mi x) hx.mi _ (by simp) _)]
    rw [loopF_nil rfl]
    simp [kinD, kinL]
  rw [sq_nx f, s_ret (S1 := S ++ [.lst (kinD x)]) (d := .ref S.length) (by simp)]
  simp only [body_ret, leaveR]
  rw [if_pos (kept_app _ _)]
  have hd : dem 8 S.length (S ++ [.lst (kinD x)]) (.ref S.length) = some (.lst (kinD x)) := by
    have hg : (S ++ [O.lst (kinD x)])[S.length]? = some (.lst (kinD x)) := by simp
    have low : ∀ y : Pic, (gr y).lower S.length = true := fun y => by
      unfold gr gridI gridD
      simp only [D.lower]
      refine lowerL_of fun d hd => ?_
      obtain ⟨j, _, rfl⟩ := mem_tb hd
      simp only [D.lower]
      refine lowerL_of fun d hd => ?_
      obtain ⟨k, _, rfl⟩ := mem_tb hd
      simp only [D.lower]
    have hm : demL (dem 7 S.length (S ++ [O.lst (kinD x)])) (kinD x) = some (kinD x) := demL_same fun d hd => dem_lower 7 d (by
      obtain ⟨y, _, rfl⟩ := List.mem_map.1 hd
      exact low y)
    simp only [dem, Nat.lt_irrefl, if_false, hg, hm, Option.map_some]
  rw [hd]
  simp
theorem G_kin {x : Pic} (hx : OkP x) (S : Sto) : F_kin_of [gr x] S = .ok (.lst (kinD x)) S := kin_body (fun x h S => gr_turned h S) (fun x h S => gr_mirrored h S) hx S
theorem H_kin {x : Pic} (hx : OkP x) (S : Sto) : F_law_kin [gr x] S = .ok (.lst (kinD x)) S := kin_body (fun x h S => hr_turned h S) (fun x h S => hr_mirrored h S) hx S
theorem min_kin {x : Pic} (S : Sto) : minTD [.lst (kinD x)] S = .ok (least x) S := min_grids (by simp [kinD, kinL]) kin_G S
theorem G_turnedP {x : Pic} (hx : OkP x) (S : Sto) : F_turned [gr x] S = .ok (gr (tn x)) S := by
  show bodyRes (b_turned [some (gr x)] S) = _
  unfold b_turned
  rw [sq_ex (S1 := S) (d := .non) (by simp [gr_need hx])]
  simp [sRet, gr_turned hx]
theorem G_mirroredP {x : Pic} (hx : OkP x) (S : Sto) : F_mirrored [gr x] S = .ok (gr (mi x)) S := by
  show bodyRes (b_mirrored [some (gr x)] S) = _
  unfold b_mirrored
  rw [sq_ex (S1 := S) (d := .non) (by simp [gr_need hx])]
  simp [sRet, gr_mirrored hx]
theorem G_least {x : Pic} (hx : OkP x) (S : Sto) : F_least_kin [gr x] S = .ok (least x) S := by
  show bodyRes (b_least_kin [some (gr x)] S) = _
  unfold b_least_kin
  rw [sq_ex (S1 := S) (d := .non) (by simp [gr_need hx])]
  simp [sRet, G_kin hx, min_kin]
theorem least_G (x : Pic) : IsG (least x) := kin_G (x := x) _ (leastD_ok (ds := kinD x) (by simp [kinD, kinL])).1
theorem pl_least (n : Nat) (x : Pic) : pl (n + 3) (least x) = true := by
  obtain ⟨s, g, e⟩ := least_G x
  rw [e]; exact pl_grid
open Classical in
theorem eq_least {x y : Pic} (hx : OkP x) (hy : OkP y) (neg : Bool) (S : Sto) : eqD neg (least x) (least y) S = .ok (.bl (if neg then !decide (gr y ∈ kinD x) else decide (gr y ∈ kinD x))) S := by
  rw [eqD_pl (pl_least 9 x) (pl_least 9 y)]
  have : decide (least x = least y) = decide (gr y ∈ kinD x) := decide_eq_decide.2 (least_iff hx hy)
  rw [this]
open Classical in
theorem G_are {x y : Pic} (hx : OkP x) (hy : OkP y) (S : Sto) : F_are_kin [gr x, gr y] S = .ok (.bl (decide (gr y ∈ kinD x))) S := by
  show bodyRes (b_are_kin [some (gr x), some (gr y)] S) = _
  unfold b_are_kin
  rw [sq_ex (S1 := S) (d := .non) (by simp [gr_need hx]), sq_ex (S1 := S) (d := .non) (by simp [gr_need hy])]
  simp [sRet, G_kin hx, G_kin hy, min_kin, eq_least hx hy]
theorem kin_comm {x y : Pic} (hx : OkP x) (hy : OkP y) : gr y ∈ kinD x ↔ gr x ∈ kinD y := by
  rw [← least_iff hx hy, ← least_iff hy hx]; exact eq_comm
/-! x in a list of plain data -/
theorem any_eqv {S : Sto} {a : D} {p : PyData} (ha : pl 11 a = true) (hp : toP 11 S a = some p) : ∀ (as : List D) (ps : List PyData), as.all (pl 11) = true → toPs (toP 11 S) as = some ps → (ps.any (fun z => PyData.eqv z p) = true ↔ a ∈ as)
  | [], ps, h, e => by cases e; simp
  | b :: bs, ps, h, e => by
    simp only [List.all_cons, Bool.and_eq_true] at h
    simp only [toPs] at e
    split at e
    · rename_i q qs e1 e2
      cases e
      rw [List.any_cons, Bool.or_eq_true, any_eqv ha hp bs qs h.2 e2, pl_eqv 11 b a q p h.1 ha e1 hp, List.mem_cons]
      constructor
      · rintro (z | z)
        · exact .inl z.symm
        · exact .inr z
      · rintro (z | z)
        · exact .inl z.symm
        · exact .inr z
    · cases e
theorem toP_mono {S : Sto} : ∀ (n : Nat) (d : D) (p : PyData), toP n S d = some p → toP (n + 1) S d = some p := by
  have L : ∀ (n : Nat), (∀ d p, toP n S d = some p → toP (n + 1) S d = some p) → ∀ (ds : List D) (ps : List PyData), toPs (toP n S) ds = some ps → toPs (toP (n + 1) S) ds = some ps := by
    intro n ih ds
    induction ds with
    | nil => intro ps h; exact h
    | cons d ds ihd =>
      intro ps h
      simp only [toPs] at h ⊢
      split at h
      · rename_i p ps' e1 e2
        cases h
        rw [ih d p e1, ihd ps' e2]
      · cases h
  intro n
  induction n with
  | zero => intro d p h; simp [toP] at h
  | succ n ih =>
    intro d p h
    have mp : ∀ (C : List PyData → PyData) (ds : List D), (toPs (toP n S) ds).map C = some p → (toPs (toP (n + 1) S) ds).map C = some p := by
      intro C ds h
      cases e : toPs (toP n S) ds with
      | none => rw [e] at h; cases h
      | some ps => rw [e] at h; rw [L n ih ds ps e]; exact h
    cases d with
    | tup ds => simp only [toP] at h; exact mp _ ds h
    | lst ds => simp only [toP] at h; exact mp _ ds h
    | fz ds => simp only [toP] at h; exact mp _ ds h
    | ref k =>
      simp only [toP] at h
      unfold toP
      split at h
      · exact mp _ _ h
      · cases h
    | non => exact h
    | bl b => exact h
    | int i => exact h
    | str x => exact h
    | adr a => simp [toP] at h
    | ty a => simp [toP] at h
open Classical in
theorem in_plL {S : Sto} {neg : Bool} {a : D} {as : List D} (ha : pl 11 a = true) (h : as.all (pl 11) = true) : inD neg a (.lst as) S = .ok (.bl (if neg then !decide (a ∈ as) else decide (a ∈ as))) S := by
  obtain ⟨p, hp⟩ := pl_data (S := S) 11 a ha
  obtain ⟨ps, hs⟩ := pls_data (S := S) (pl_data 11) as h
  have e := any_eqv ha hp as ps h hs
  have e' : ps.any (fun z => PyData.eqv z p) = decide (a ∈ as) := by rw [Bool.eq_iff_iff]; simpa using e
  have h1 : dP S a = some p := toP_mono 11 a p hp
  have h2 : dP S (.lst as) = some (.list ps) := by show toP 12 S (.lst as) = _; simp only [toP, hs, Option.map_some]
  simp only [inD, h1, h2, e']
end Py
set_option maxRecDepth 100000
set_option maxHeartbeats 1000000
namespace Py
open PySem PySem.Spec PyProof.Rows L2
/-! ### keys of pictures -/
def gkey (x : Pic) : NestedKey := .tup (tb x.1.2 fun j => .tup (tb x.1.1 fun k => .num (x.2 (j, k))))
theorem keysOf_tb {n : Nat} {f : Nat → D} {φ : Nat → NestedKey} (h : ∀ k, k < n → keyOf (f k) = some (φ k)) : keysOf (tb n f) = some (tb n φ) := by
  have app : ∀ (as bs : List D) (ps qs : List NestedKey), keysOf as = some ps → keysOf bs = some qs → keysOf (as ++ bs) = some (ps ++ qs) := by
    intro as
    induction as with
    | nil => intro bs ps qs h1 h2; simp only [keysOf] at h1; cases h1; exact h2
    | cons a as ih =>
      intro bs ps qs h1 h2
      simp only [keysOf] at h1
      split at h1
      · rename_i p ps' e1 e2
        cases h1
        simp only [List.cons_append, keysOf, e1, ih bs ps' qs e2 h2]
      · cases h1
  induction n with
  | zero => rfl
  | succ n ih =>
    rw [tb_succ, tb_succ]
    exact app _ _ _ _ (ih fun k hk => h k (by omega)) (by simp only [keysOf, h n (by omega)])
theorem keyOf_gr (x : Pic) : keyOf (gr x) = some (gkey x) := by
  unfold gr gridI gridD gkey
  simp only [keyOf]
  rw [keysOf_tb (φ := fun j => .tup (tb x.1.1 fun k => .num (x.2 (j, k)))) (fun j _ => ?_)]
  · rfl
  · simp only [keyOf]
    rw [keysOf_tb (φ := fun k => .num (x.2 (j, k))) (fun k _ => by simp only [keyOf])]
    rfl
theorem depthAll_le {d : Nat} : ∀ {ks : List NestedKey}, (∀ k ∈ ks, k.depth ≤ d) → NestedKey.depthAll ks ≤ d
  | [], h => by simp [NestedKey.depthAll]
  | k :: ks, h => by
    have h1 := h k (List.mem_cons_self ..)
    have h2 := depthAll_le (ks := ks) fun k hk => h k (List.mem_cons_of_mem _ hk)
    simp only [NestedKey.depthAll]
    omega
theorem gkey_depth (x : Pic) : (gkey x).depth ≤ 8 := by
  unfold gkey
  have h : NestedKey.depthAll (tb x.1.2 fun j => .tup (tb x.1.1 fun k => .num (x.2 (j, k)))) ≤ 1 := depthAll_le fun k hk => by
    obtain ⟨j, _, rfl⟩ := mem_tb hk
    have : NestedKey.depthAll (tb x.1.1 fun k => .num (x.2 (j, k))) ≤ 0 := depthAll_le fun k hk => by
      obtain ⟨i, _, rfl⟩ := mem_tb hk
      simp [NestedKey.depth]
    simp only [NestedKey.depth]
    omega
  simp only [NestedKey.depth]
  omega
theorem pkey_gr (x : Pic) : pkey (gr x) = some (gkey x) := by
  have h := keyOf_gr x
  have e : gr x = .tup (tb x.1.2 fun j => .tup (tb x.1.1 fun k => .int (x.2 (j, k)))) := rfl
  rw [e] at h ⊢
  simp only [pkey, h, if_pos (gkey_depth x)]
theorem gkey_iff {x y : Pic} (h0 : 0 < x.1.2) : gkey x = gkey y ↔ gr x = gr y := by
  constructor
  · intro h
    unfold gkey at h
    obtain ⟨a, b⟩ := tb_inj (NestedKey.tup.inj h)
    have hw : x.1.1 = y.1.1 := (tb_inj (NestedKey.tup.inj (b 0 h0))).1
    refine gr_congr (Prod.ext hw a) fun j k hj hk => ?_
    have := (tb_inj (NestedKey.tup.inj (b j hj))).2 k hk
    exact NestedKey.num.inj this
  · intro h
    have := keyOf_gr x
    rw [h, keyOf_gr y] at this
    exact (Option.some.inj this).symm
/-! ### a hall -/
structure Row where
  pic : Pic
  places : List Str
  deeds : List Deed
  marks : List Str
  stars : Int
  moment : Int
structure HSt where
  rows : List Row
  past : List (Nat × List Deed)
abbrev HSt.n (t : HSt) : Nat := t.rows.length
def byL : Nat → List Row → List (NestedKey × D)
  | _, [] => []
  | i, r :: rs => (gkey r.pic, .int i) :: byL (i + 1) rs
def rowO (pl mk : Nat) (r : Row) : O := .dS [(.inr "first", gr r.pic), (.inr "places", .ref pl), (.inr "deeds", deedsD r.deeds), (.inr "marks", .ref mk), (.inr "stars", .int r.stars), (.inr "moment", .int r.moment)]
def pastD (p : Nat × List Deed) : D := .tup [.int p.1, deedsD p.2]
/-- where a hall's objects stand -/
structure HIx where
  h : Nat
  b : Nat
  K : Nat → Nat
  L : Nat → Nat
abbrev hallO (x : HIx) : O := .ins [("rows", .ref (x.L 0)), ("by", .ref x.b), ("past", .ref (x.L 1))]
structure HallAt (S : Sto) (x : HIx) (t : HSt) : Prop where
  ih : S[x.h]? = some (hallO x)
  ib : S[x.b]? = some (.dP (byL 0 t.rows))
  ir : S[x.L 0]? = some (.lst (tb t.n fun i => .ref (x.K i)))
  ip : S[x.L 1]? = some (.lst (t.past.map pastD))
  ik : ∀ (i : Nat) r, t.rows[i]? = some r → S[x.K i]? = some (rowO (x.L (2 + 2 * i)) (x.L (3 + 2 * i)) r)
  il : ∀ (i : Nat) r, t.rows[i]? = some r → S[x.L (2 + 2 * i)]? = some (.lst (r.places.map .str))
  im : ∀ (i : Nat) r, t.rows[i]? = some r → S[x.L (3 + 2 * i)]? = some (.lst (r.marks.map .str))
  kI : ∀ i j, i < t.n → j < t.n → x.K i = x.K j → i = j
  lI : ∀ a b, a < 2 + 2 * t.n → b < 2 + 2 * t.n → x.L a = x.L b → a = b
/-- what is a hall's own -/
def own (x : HIx) (n i : Nat) : Prop := i = x.h ∨ i = x.b ∨ (∃ j, j < n ∧ i = x.K j) ∨ ∃ a, a < 2 + 2 * n ∧ i = x.L a
/-- what else stands in the store stays; what is new is behind it -/
structure Step (S S' : Sto) (x x' : HIx) (n n' : Nat) : Prop where
  hh : x'.h = x.h
  len : S.length ≤ S'.length
  old : ∀ i, i < S.length → ¬ own x n i → S'[i]? = S[i]?
  new : ∀ i, own x' n' i → own x n i ∨ S.length ≤ i
theorem Step.refl (S : Sto) (x : HIx) (n : Nat) : Step S S x x n n := ⟨rfl, Nat.le_refl _, fun _ _ _ => rfl, fun _ h => .inl h⟩
theorem Step.trans {S S1 S2 : Sto} {x x1 x2 : HIx} {n n1 n2 : Nat} (a : Step S S1 x x1 n n1) (b : Step S1 S2 x1 x2 n1 n2) : Step S S2 x x2 n n2 where
  hh := b.hh.trans a.hh
  len := Nat.le_trans a.len b.len
  old := fun i hi ho => by
    rw [b.old i (Nat.lt_of_lt_of_le hi a.len) (fun h => ?_), a.old i hi ho]
    rcases a.new i h with h | h
    · exact ho h
    · omega
  new := fun i h => by
    rcases b.new i h with h | h
    · exact a.new i h
    · exact .inr (Nat.le_trans a.len h)
theorem HallAt.congr {S S' : Sto} {x : HIx} {t : HSt} (h : HallAt S x t) (e : ∀ i, own x t.n i → S'[i]? = S[i]?) : HallAt S' x t where
  ih := by rw [e _ (.inl rfl)]; exact h.ih
  ib := by rw [e _ (.inr (.inl rfl))]; exact h.ib
  ir := by rw [e _ (.inr (.inr (.inr ⟨0, by omega, rfl⟩)))]; exact h.ir
  ip := by rw [e _ (.inr (.inr (.inr ⟨1, by omega, rfl⟩)))]; exact h.ip
  ik := fun i r hi => by
    have hl := (List.getElem?_eq_some_iff.1 hi).1
    rw [e _ (.inr (.inr (.inl ⟨i, hl, rfl⟩)))]; exact h.ik i r hi
  il := fun i r hi => by
    have hl : i < t.n := (List.getElem?_eq_some_iff.1 hi).1
    rw [e _ (.inr (.inr (.inr ⟨2 + 2 * i, by omega, rfl⟩)))]; exact h.il i r hi
  im := fun i r hi => by
    have hl : i < t.n := (List.getElem?_eq_some_iff.1 hi).1
    rw [e _ (.inr (.inr (.inr ⟨3 + 2 * i, by omega, rfl⟩)))]; exact h.im i r hi
  kI := h.kI
  lI := h.lI
theorem HallAt.lt {S : Sto} {x : HIx} {t : HSt} (h : HallAt S x t) {i : Nat} (o : own x t.n i) : i < S.length := by
  have k : ∀ {j : Nat} {o : O}, S[j]? = some o → j < S.length := fun h => (List.getElem?_eq_some_iff.1 h).1
  rcases o with rfl | rfl | ⟨j, hj, rfl⟩ | ⟨a, ha, rfl⟩
  · exact k h.ih
  · exact k h.ib
  · exact k (h.ik j _ (List.getElem?_eq_getElem hj))
  · by_cases c0 : a = 0
    · subst c0; exact k h.ir
    · by_cases c1 : a = 1
      · subst c1; exact k h.ip
      · by_cases e : a % 2 = 0
        · have : a = 2 + 2 * ((a - 2) / 2) := by omega
          rw [this]
          exact k (h.il ((a - 2) / 2) _ (List.getElem?_eq_getElem (by show (a - 2) / 2 < t.n; omega)))
        · have : a = 3 + 2 * ((a - 3) / 2) := by omega
          rw [this]
          exact k (h.im ((a - 3) / 2) _ (List.getElem?_eq_getElem (by show (a - 3) / 2 < t.n; omega)))
/-- something is laid behind -/
theorem HallAt.app {S : Sto} {x : HIx} {t : HSt} (h : HallAt S x t) (os : Sto) : HallAt (S ++ os) x t := h.congr fun i o => by rw [List.getElem?_append_left (h.lt o)]
/-! kinds: what is of another kind stands elsewhere -/
theorem ne_kind {S : Sto} {i j : Nat} {a b : O} (h : S[i]? = some a) (k : S[j]? = some b) (hne : a ≠ b) : i ≠ j := fun e => by
  subst e; rw [h] at k; exact hne (Option.some.inj k)
section
variable {S : Sto} {x : HIx} {t : HSt}
theorem HallAt.rows (h : HallAt S x t) : fldD "rows" (.ref x.h) S = .ok (.ref (x.L 0)) S := by simp only [fldD, h.ih]; rfl
theorem HallAt.by_ (h : HallAt S x t) : fldD "by" (.ref x.h) S = .ok (.ref x.b) S := by simp only [fldD, h.ih]; rfl
theorem HallAt.past (h : HallAt S x t) : fldD "past" (.ref x.h) S = .ok (.ref (x.L 1)) S := by simp only [fldD, h.ih]; rfl
theorem HallAt.lenR (h : HallAt S x t) : lenD [.ref (x.L 0)] S = .ok (.int t.n) S := by simp [lenD, seqOf, lstOf, h.ir]
theorem HallAt.ixR (h : HallAt S x t) {i : Nat} (hi : i < t.n) : ixD (.ref (x.L 0)) (.int i) S = .ok (.ref (x.K i)) S := by
  have hg : L2.atI (tb t.n fun i => D.ref (x.K i)) (i : Int) = some (.ref (x.K i)) := by
    rw [atI_of rfl (by simpa using hi), tb_get]
  simp only [ixD, seqOf, lstOf, h.ir, ixL, hg]
/-- a method is called -/
theorem HallAt.meth (h : HallAt S x t) {m : Str} {F : List D → Sto → Res D} {o : ME} {g : MA} {fr : Fr} (ho : o fr S = .ok (.ref x.h) S) (hm : (m == "rows") = false ∧ (m == "by") = false ∧ (m == "past") = false) : eMeth m F o g fr S = (g fr S).bind fun xs S => F (.ref x.h :: xs) S := by
  have hl : ([("rows", .ref (x.L 0)), ("by", .ref x.b), ("past", .ref (x.L 1))] : List (Str × D)).lookup m = none := by
    simp only [List.lookup, hm.1, hm.2.1, hm.2.2]
  simp only [eMeth, ho, Res.bind_ok, insOf, h.ih, hl]
end
theorem nf_need : (("need" : Str) == "rows") = false ∧ (("need" : Str) == "by") = false ∧ (("need" : Str) == "past") = false := by decide +kernel
theorem nf_told : (("told_of" : Str) == "rows") = false ∧ (("told_of" : Str) == "by") = false ∧ (("told_of" : Str) == "past") = false := by decide +kernel
theorem nf_become : (("become" : Str) == "rows") = false ∧ (("become" : Str) == "by") = false ∧ (("become" : Str) == "past") = false := by decide +kernel
theorem nf_take : (("take_in" : Str) == "rows") = false ∧ (("take_in" : Str) == "by") = false ∧ (("take_in" : Str) == "past") = false := by decide +kernel
theorem nf_first : (("first" : Str) == "rows") = false ∧ (("first" : Str) == "by") = false ∧ (("first" : Str) == "past") = false := by decide +kernel
theorem nf_shown : (("shown" : Str) == "rows") = false ∧ (("shown" : Str) == "by") = false ∧ (("shown" : Str) == "past") = false := by decide +kernel
theorem nf_places : (("places" : Str) == "rows") = false ∧ (("places" : Str) == "by") = false ∧ (("places" : Str) == "past") = false := by decide +kernel
theorem nf_deeds : (("deeds" : Str) == "rows") = false ∧ (("deeds" : Str) == "by") = false ∧ (("deeds" : Str) == "past") = false := by decide +kernel
theorem nf_numbers : (("numbers" : Str) == "rows") = false ∧ (("numbers" : Str) == "by") = false ∧ (("numbers" : Str) == "past") = false := by decide +kernel
theorem nf_number_of : (("number_of" : Str) == "rows") = false ∧ (("number_of" : Str) == "by") = false ∧ (("number_of" : Str) == "past") = false := by decide +kernel
theorem nf_change : (("change" : Str) == "rows") = false ∧ (("change" : Str) == "by") = false ∧ (("change" : Str) == "past") = false := by decide +kernel
/-! what a row's dict tells -/
section
variable (S : Sto) {k pl mk : Nat} {r : Row}
theorem r_first (h : S[k]? = some (rowO pl mk r)) : dgetS (.ref k) (.str "first") S = .ok (gr r.pic) S := by simp only [dgetS, h, rowO, skey]; rfl
theorem r_places (h : S[k]? = some (rowO pl mk r)) : dgetS (.ref k) (.str "places") S = .ok (.ref pl) S := by simp only [dgetS, h, rowO, skey]; rfl
theorem r_deeds (h : S[k]? = some (rowO pl mk r)) : dgetS (.ref k) (.str "deeds") S = .ok (deedsD r.deeds) S := by simp only [dgetS, h, rowO, skey]; rfl
theorem r_marks (h : S[k]? = some (rowO pl mk r)) : dgetS (.ref k) (.str "marks") S = .ok (.ref mk) S := by simp only [dgetS, h, rowO, skey]; rfl
theorem r_stars (h : S[k]? = some (rowO pl mk r)) : dgetS (.ref k) (.str "stars") S = .ok (.int r.stars) S := by simp only [dgetS, h, rowO, skey]; rfl
theorem r_moment (h : S[k]? = some (rowO pl mk r)) : dgetS (.ref k) (.str "moment") S = .ok (.int r.moment) S := by simp only [dgetS, h, rowO, skey]; rfl
end
section
variable {S : Sto} {x : HIx} {t : HSt}
/-! ### need and what is told by value -/
theorem G_need (h : HallAt S x t) {d : D} (hd : Ty S d) : F_Hall_need [.ref x.h, d] S = if isW 0 ((t.n : Int) - 1) d then ixD (.ref (x.L 0)) d S else .exc "NoNumber" S := by
  have e : F_Hall_need [.ref x.h, d] S = bodyRes (b_Hall_need [some (.ref x.h), some d] S) := rfl
  rw [e]
  unfold b_Hall_need
  have hw := F_whole (S := S) (lo := 0) (hi := (t.n : Int) - 1) hd
  cases c : isW 0 ((t.n : Int) - 1) d with
  | true =>
    rw [sq_f (S1 := S) (by simp [h.rows, h.lenR, hw, c])]
    simp only [sRet, ap_2, ap_1, ap_var, List.getElem?_cons_succ, List.getElem?_cons_zero, Res.bind_ok, h.rows, if_true]
    cases ixD (.ref (x.L 0)) d S <;> rfl
  | false =>
    rw [sq_t (S1 := S) (by simp [h.rows, h.lenR, hw, c])]
    simp [sSeq, sRaise]
theorem G_needI (h : HallAt S x t) {i : Nat} (hi : i < t.n) : F_Hall_need [.ref x.h, .int i] S = .ok (.ref (x.K i)) S := by
  rw [G_need h ⟨_, rfl⟩, if_pos (by simp [isW]; omega), h.ixR hi]
theorem G_needX (h : HallAt S x t) {d : D} (hd : Ty S d) (hw : isW 0 ((t.n : Int) - 1) d = false) : F_Hall_need [.ref x.h, d] S = .exc "NoNumber" S := by
  rw [G_need h hd, hw]; rfl
theorem need_eq (h : HallAt S x t) {i : Nat} (hi : i < t.n) {fr : Fr} (h0 : fr[0]? = some (some (.ref x.h))) (h1 : fr[1]? = some (some (.int i))) : eMeth "need" F_Hall_need (eVar 0) (aCons (eVar 1) aNil) fr S = .ok (.ref (x.K i)) S := by
  rw [h.meth (by simp [h0]) nf_need]
  simp [h1, G_needI h hi]
theorem G_numbers (h : HallAt S x t) : F_Hall_numbers [.ref x.h] S = .ok (.int t.n) S := by
  show bodyRes (b_Hall_numbers [some (.ref x.h)] S) = _
  simp [b_Hall_numbers, sRet, h.rows, h.lenR]
variable {i : Nat} {r : Row}
theorem G_first (h : HallAt S x t) (hr : t.rows[i]? = some r) : F_Hall_first [.ref x.h, .int i] S = .ok (gr r.pic) S := by
  have hi := (List.getElem?_eq_some_iff.1 hr).1
  show bodyRes (b_Hall_first [some (.ref x.h), some (.int i)] S) = _
  simp [b_Hall_first, sRet, need_eq h hi, r_first S (h.ik i r hr)]
theorem G_deedsM (h : HallAt S x t) (hr : t.rows[i]? = some r) : F_Hall_deeds [.ref x.h, .int i] S = .ok (deedsD r.deeds) S := by
  have hi := (List.getElem?_eq_some_iff.1 hr).1
  show bodyRes (b_Hall_deeds [some (.ref x.h), some (.int i)] S) = _
  simp [b_Hall_deeds, sRet, need_eq h hi, r_deeds S (h.ik i r hr)]
theorem G_places (h : HallAt S x t) (hr : t.rows[i]? = some r) : F_Hall_places [.ref x.h, .int i] S = .ok (.lst (r.places.map .str)) S := by
  have hi := (List.getElem?_eq_some_iff.1 hr).1
  show bodyRes (b_Hall_places [some (.ref x.h), some (.int i)] S) = _
  simp [b_Hall_places, sRet, need_eq h hi, r_places S (h.ik i r hr), listD, seqOf, lstOf, h.il i r hr]
theorem G_placesN (h : HallAt S x t) (hr : t.rows[i]? = some r) : F_Hall_places_N [.ref x.h, .int i] S = .ok (.ref S.length) (S ++ [.lst (r.places.map .str)]) := by
  have hi := (List.getElem?_eq_some_iff.1 hr).1
  show bodyRes (b_Hall_places_N [some (.ref x.h), some (.int i)] S) = _
  simp [b_Hall_places_N, sRet, need_eq h hi, r_places S (h.ik i r hr), listN, seqOf, lstOf, h.il i r hr]
/-- a row of deeds that is done to a picture -/
def Fits (p : Pic) (ds : List Deed) : Prop := OkP p ∧ ds.all okDeed = true ∧ ∃ s', szs ds p.1 = some s'
def shownP (p : Pic) (ds : List Deed) : Pic := (((szs ds p.1).getD (1, 1)), fun q => lgs ds (p.2 (pos ds p.1 q)))
theorem Fits.ok {p : Pic} {ds : List Deed} (h : Fits p ds) : OkP (shownP p ds) := by
  obtain ⟨hp, hd, s', e⟩ := h
  refine ⟨?_, ?_⟩
  · simp only [shownP, e, Option.getD_some]; exact hp.1.mvs hd e
  · simp only [shownP, e, Option.getD_some]; exact hp.2.bh e
theorem behind_ok {p : Pic} {ds : List Deed} (h : Fits p ds) (S : Sto) : F_behind [gr p, deedsD ds] S = .ok (gr (shownP p ds)) S := by
  obtain ⟨hp, hd, s', e⟩ := h
  have := G_behind (s := p.1) (g := p.2) hp.1 hd S
  rw [e] at this
  simp only [shownP, e, Option.getD_some]
  exact this
theorem behind_no {p : Pic} {ds : List Deed} (hp : OkP p) (hd : ds.all okDeed = true) (e : szs ds p.1 = none) (S : Sto) : F_behind [gr p, deedsD ds] S = .exc "NoCut" S := by
  have := G_behind (s := p.1) (g := p.2) hp.1 hd S
  rw [e] at this
  exact this
theorem G_shown (h : HallAt S x t) (hr : t.rows[i]? = some r) (hf : Fits r.pic r.deeds) : F_Hall_shown [.ref x.h, .int i] S = .ok (gr (shownP r.pic r.deeds)) S := by
  have hi := (List.getElem?_eq_some_iff.1 hr).1
  show bodyRes (b_Hall_shown [some (.ref x.h), some (.int i), none] S) = _
  unfold b_Hall_shown
  rw [sq_set (S1 := S) (d := .ref (x.K i)) (need_eq h hi rfl rfl)]
  simp [sRet, r_first S (h.ik i r hr), r_deeds S (h.ik i r hr), behind_ok hf]
end
end Py
set_option maxRecDepth 100000
set_option maxHeartbeats 1000000
namespace Py
open PySem PySem.Spec PyProof.Rows L2
/-! ### == of deeds -/
def undD : D → Option Deed
  | .tup [.str z] => if z = "turn" then some .turn else if z = "mirror" then some .mirror else if z = "invert" then some .invert else some .halve
  | .tup [.str z, .int l] => some (.light l)
  | .tup [.str z, .int l, .int t, .int w, .int h] => some (.cut l.toNat t.toNat w.toNat h.toNat)
  | _ => none
theorem undD_d (a : Deed) : undD a.d = some a := by
  cases a with
  | turn => rfl
  | mirror => rfl
  | invert => rfl
  | halve => rfl
  | light l => rfl
  | cut l t w h => simp [Deed.d, undD]
theorem Deed.d_inj {a b : Deed} (h : a.d = b.d) : a = b := by
  have := undD_d a
  rw [h, undD_d b] at this
  exact (Option.some.inj this).symm
theorem deedsD_inj {as bs : List Deed} (h : deedsD as = deedsD bs) : as = bs := by
  have h' : as.map Deed.d = bs.map Deed.d := D.tup.inj h
  exact List.map_inj_right (fun _ _ e => Deed.d_inj e) |>.1 h'
theorem pl_deed (n : Nat) (d : Deed) : pl (n + 2) d.d = true := by
  cases d <;> simp [Deed.d, pl, ok_turn, ok_mirror, ok_invert, ok_halve, ok_light, ok_cut]
theorem pl_deeds (n : Nat) (ds : List Deed) : pl (n + 3) (deedsD ds) = true := by
  simp only [deedsD, pl, List.all_map, List.all_eq_true]
  intro d _
  exact pl_deed n d
theorem ne_deeds {as bs : List Deed} (neg : Bool) (S : Sto) : eqD neg (deedsD as) (deedsD bs) S = .ok (.bl (if neg then !decide (as = bs) else decide (as = bs))) S := by
  rw [eqD_pl (pl_deeds 9 as) (pl_deeds 9 bs)]
  have : (deedsD as = deedsD bs) ↔ (as = bs) := ⟨deedsD_inj, fun h => by rw [h]⟩
  by_cases c : as = bs
  · subst c; simp
  · have c' : ¬ deedsD as = deedsD bs := fun h => c (this.1 h)
    simp [c, c']
/-! ### the store's objects of a hall change -/
theorem byL_set : ∀ (rs : List Row) (k i : Nat) (r' : Row), (∀ r, rs[i]? = some r → r'.pic = r.pic) → byL k (rs.set i r') = byL k rs
  | [], k, i, r', h => by simp
  | r :: rs, k, 0, r', h => by simp only [List.set_cons_zero, byL, h r rfl]
  | r :: rs, k, i + 1, r', h => by simp only [List.set_cons_succ, byL, byL_set rs (k + 1) i r' (fun r hr => h r (by simpa using hr))]
section
variable {S : Sto} {x : HIx} {t : HSt} {i : Nat} {r : Row}
theorem HallAt.setRow (h : HallAt S x t) (hr : t.rows[i]? = some r) (r' : Row) (hpic : r'.pic = r.pic) (hp : r'.places = r.places) (hm : r'.marks = r.marks) :
    HallAt (S.set (x.K i) (rowO (x.L (2 + 2 * i)) (x.L (3 + 2 * i)) r')) x ⟨t.rows.set i r', t.past⟩ := by
  have hi : i < t.n := (List.getElem?_eq_some_iff.1 hr).1
  have hk := h.ik i r hr
  have nk : ∀ {j : Nat} {o : O}, S[j]? = some o → (∀ kvs, o ≠ .dS kvs) → (S.set (x.K i) (rowO (x.L (2 + 2 * i)) (x.L (3 + 2 * i)) r'))[j]? = some o := fun {j o} hj hne => by
    rw [List.getElem?_set_ne]
    · exact hj
    · exact ne_kind hk hj fun e => hne _ e.symm
  have hn : (t.rows.set i r').length = t.n := by simp
  refine ⟨nk h.ih (by simp), ?_, ?_, nk h.ip (by simp), fun j q hq => ?_, fun j q hq => ?_, fun j q hq => ?_, fun a b ha hb => ?_, fun a b ha hb => ?_⟩
  · show _ = some (O.dP (byL 0 (t.rows.set i r')))
    rw [byL_set t.rows 0 i r' (fun q hq => by rw [hr] at hq; cases hq; exact hpic)]
    exact nk h.ib (by simp)
  · show _ = some (O.lst (tb (t.rows.set i r').length _))
    rw [hn]
    exact nk h.ir (by simp)
  · by_cases c : j = i
    · subst c
      have hq' : q = r' := by
        have : (t.rows.set j r')[j]? = some r' := by rw [List.getElem?_set_self hi]
        rw [this] at hq; cases hq; rfl
      subst hq'
      rw [List.getElem?_set_self (List.getElem?_eq_some_iff.1 hk).1]
    · have hq' : t.rows[j]? = some q := by
        have : (t.rows.set i r')[j]? = t.rows[j]? := List.getElem?_set_ne (Ne.symm c)
        rw [← this]; exact hq
      have hj : j < t.n := (List.getElem?_eq_some_iff.1 hq').1
      rw [List.getElem?_set_ne (fun e => c (h.kI j i hj hi e.symm))]
      exact h.ik j q hq'
  · by_cases c : j = i
    · subst c
      have hq' : q = r' := by
        have : (t.rows.set j r')[j]? = some r' := by rw [List.getElem?_set_self hi]
        rw [this] at hq; cases hq; rfl
      subst hq'
      rw [hp]
      exact nk (h.il j r hr) (by simp)
    · have hq' : t.rows[j]? = some q := by
        have : (t.rows.set i r')[j]? = t.rows[j]? := List.getElem?_set_ne (Ne.symm c)
        rw [← this]; exact hq
      exact nk (h.il j q hq') (by simp)
  · by_cases c : j = i
    · subst c
      have hq' : q = r' := by
        have : (t.rows.set j r')[j]? = some r' := by rw [List.getElem?_set_self hi]
        rw [this] at hq; cases hq; rfl
      subst hq'
      rw [hm]
      exact nk (h.im j r hr) (by simp)
    · have hq' : t.rows[j]? = some q := by
        have : (t.rows.set i r')[j]? = t.rows[j]? := List.getElem?_set_ne (Ne.symm c)
        rw [← this]; exact hq
      exact nk (h.im j q hq') (by simp)
  · have e : (⟨t.rows.set i r', t.past⟩ : HSt).n = t.n := hn
    rw [e] at ha hb
    exact h.kI a b ha hb
  · have e : (⟨t.rows.set i r', t.past⟩ : HSt).n = t.n := hn
    rw [e] at ha hb
    exact h.lI a b ha hb
/-- a list of the hall changes: marks, places -/
theorem HallAt.setLst (h : HallAt S x t) {a : Nat} (ha : a < 2 + 2 * t.n) (ha2 : 2 ≤ a) (us : List Str) (t' : HSt) (ht : t'.past = t.past) (hn : t'.n = t.n) (hrow : ∀ (j : Nat) q, t'.rows[j]? = some q → ∃ r, t.rows[j]? = some r ∧ q.pic = r.pic ∧ q.deeds = r.deeds ∧ q.stars = r.stars ∧ q.moment = r.moment ∧
      q.places = (if a = 2 + 2 * j then us else r.places) ∧ q.marks = (if a = 3 + 2 * j then us else r.marks)) : HallAt (S.set (x.L a) (.lst (us.map .str))) x t' := by
  have hg : ∀ b, b < 2 + 2 * t.n → ∃ ds, S[x.L b]? = some (.lst ds) := fun b hb => by
    by_cases c0 : b = 0
    · subst c0; exact ⟨_, h.ir⟩
    · by_cases c1 : b = 1
      · subst c1; exact ⟨_, h.ip⟩
      · by_cases e : b % 2 = 0
        · have : b = 2 + 2 * ((b - 2) / 2) := by omega
          rw [this]
          exact ⟨_, h.il ((b - 2) / 2) _ (List.getElem?_eq_getElem (by show (b - 2) / 2 < t.n; omega))⟩
        · have : b = 3 + 2 * ((b - 3) / 2) := by omega
          rw [this]
          exact ⟨_, h.im ((b - 3) / 2) _ (List.getElem?_eq_getElem (by show (b - 3) / 2 < t.n; omega))⟩
  obtain ⟨da, hda⟩ := hg a ha
  have nk : ∀ {j : Nat} {o : O}, S[j]? = some o → (∀ ds, o ≠ .lst ds) → (S.set (x.L a) (.lst (us.map .str)))[j]? = some o := fun {j o} hj hne => by
    rw [List.getElem?_set_ne]
    · exact hj
    · exact ne_kind hda hj fun e => hne _ e.symm
  have nl : ∀ {b : Nat} {o : O}, b < 2 + 2 * t.n → b ≠ a → S[x.L b]? = some o → (S.set (x.L a) (.lst (us.map .str)))[x.L b]? = some o := fun {b o} hb hne hj => by
    rw [List.getElem?_set_ne (fun e => hne (h.lI b a hb ha e.symm))]
    exact hj
  have hs : (S.set (x.L a) (.lst (us.map .str)))[x.L a]? = some (.lst (us.map .str)) := List.getElem?_set_self (List.getElem?_eq_some_iff.1 hda).1
  have hby : ∀ (k : Nat) (as bs : List Row), as.length = bs.length → (∀ (j : Nat) q, as[j]? = some q → ∃ r, bs[j]? = some r ∧ q.pic = r.pic) → byL k as = byL k bs := by
    intro k as
    induction as generalizing k with
    | nil => intro bs hl _; cases bs with | nil => rfl | cons b bs => simp at hl
    | cons q as ih =>
      intro bs hl hj
      cases bs with
      | nil => simp at hl
      | cons b bs =>
        obtain ⟨r, e, hp⟩ := hj 0 q rfl
        simp at e
        subst e
        simp only [byL, hp]
        rw [ih (k + 1) bs (by simpa using hl) fun j q hq => hj (j + 1) q (by simpa using hq)]
  refine ⟨nk h.ih (by simp), ?_, ?_, ?_, fun j q hq => ?_, fun j q hq => ?_, fun j q hq => ?_, fun b c hb hc => ?_, fun b c hb hc => ?_⟩
  · rw [hby 0 t'.rows t.rows hn fun j q hq => let ⟨r, e, hp, _⟩ := hrow j q hq; ⟨r, e, hp⟩]
    exact nk h.ib (by simp)
  · rw [hn]; exact nl (by omega) (by omega) h.ir
  · rw [ht]; exact nl (by omega) (by omega) h.ip
  · obtain ⟨r, e, h1, h2, h3, h4, _⟩ := hrow j q hq
    have : rowO (x.L (2 + 2 * j)) (x.L (3 + 2 * j)) q = rowO (x.L (2 + 2 * j)) (x.L (3 + 2 * j)) r := by simp only [rowO, h1, h2, h3, h4]
    rw [this]
    exact nk (h.ik j r e) (by simp [rowO])
  · obtain ⟨r, e, _, _, _, _, h5, _⟩ := hrow j q hq
    have hj : j < t.n := (List.getElem?_eq_some_iff.1 e).1
    rw [h5]
    by_cases c : a = 2 + 2 * j
    · rw [if_pos c, ← c]; exact hs
    · rw [if_neg c]; exact nl (by omega) (by omega) (h.il j r e)
  · obtain ⟨r, e, _, _, _, _, _, h6⟩ := hrow j q hq
    have hj : j < t.n := (List.getElem?_eq_some_iff.1 e).1
    rw [h6]
    by_cases c : a = 3 + 2 * j
    · rw [if_pos c, ← c]; exact hs
    · rw [if_neg c]; exact nl (by omega) (by omega) (h.im j r e)
  · exact h.kI b c (hn ▸ hb) (hn ▸ hc)
  · exact h.lI b c (hn ▸ hb) (hn ▸ hc)
theorem HallAt.setPast (h : HallAt S x t) (ps : List (Nat × List Deed)) : HallAt (S.set (x.L 1) (.lst (ps.map pastD))) x ⟨t.rows, ps⟩ := by
  have nk : ∀ {j : Nat} {o : O}, S[j]? = some o → (∀ ds, o ≠ .lst ds) → (S.set (x.L 1) (.lst (ps.map pastD)))[j]? = some o := fun {j o} hj hne => by
    rw [List.getElem?_set_ne]
    · exact hj
    · exact ne_kind h.ip hj fun e => hne _ e.symm
  have nl : ∀ {b : Nat} {o : O}, b < 2 + 2 * t.n → b ≠ 1 → S[x.L b]? = some o → (S.set (x.L 1) (.lst (ps.map pastD)))[x.L b]? = some o := fun {b o} hb hne hj => by
    rw [List.getElem?_set_ne (fun e => hne (h.lI b 1 hb (by omega) e.symm))]
    exact hj
  refine ⟨nk h.ih (by simp), nk h.ib (by simp), nl (by omega) (by omega) h.ir, List.getElem?_set_self (List.getElem?_eq_some_iff.1 h.ip).1, fun j q hq => nk (h.ik j q hq) (by simp [rowO]), fun j q hq => ?_, fun j q hq => ?_, h.kI, h.lI⟩
  · have hj : j < t.n := (List.getElem?_eq_some_iff.1 hq).1
    exact nl (by omega) (by omega) (h.il j q hq)
  · have hj : j < t.n := (List.getElem?_eq_some_iff.1 hq).1
    exact nl (by omega) (by omega) (h.im j q hq)
theorem Step.set {j : Nat} (o : O) (hj : own x t.n j) : Step S (S.set j o) x x t.n t.n where
  hh := rfl
  len := by simp
  old := fun i _ ho => List.getElem?_set_ne (fun e => ho (by rw [← e]; exact hj))
  new := fun _ h => .inl h
/-- the state with one row changed -/
abbrev HSt.setR (t : HSt) (i : Nat) (r : Row) : HSt := ⟨t.rows.set i r, t.past⟩
theorem setA_deeds {pl mk : Nat} {r : Row} {ds : List Deed} : O.dS (setA [(.inr "first", gr r.pic), (.inr "places", .ref pl), (.inr "deeds", deedsD r.deeds), (.inr "marks", .ref mk), (.inr "stars", .int r.stars), (.inr "moment", .int r.moment)] (.inr "deeds" : Key) (deedsD ds)) = rowO pl mk { r with deeds := ds } := rfl
theorem setA_stars {pl mk : Nat} {r : Row} {k : Int} : O.dS (setA [(.inr "first", gr r.pic), (.inr "places", .ref pl), (.inr "deeds", deedsD r.deeds), (.inr "marks", .ref mk), (.inr "stars", .int r.stars), (.inr "moment", .int r.moment)] (.inr "stars" : Key) (.int k)) = rowO pl mk { r with stars := k } := rfl
theorem dput_eq {v o i : ME} {fr : Fr} {S S1 S2 S3 : Sto} {d : D} {n : Nat} {k : Str} {kvs : List (Key × D)} (h1 : v fr S = .ok d S1) (h2 : o fr S1 = .ok (.ref n) S2) (h3 : i fr S2 = .ok (.str k) S3) (h4 : S3[n]? = some (.dS kvs)) (hl : kvs.length < 1000) : sDputS v o i fr S = .nx fr (S3.set n (.dS (setA kvs (.inr k) d))) := by
  have : kvs.length < sz := by unfold sz; omega
  simp only [sDputS, h1, h2, h3, Res.then_ok, h4, skey, if_pos this]
/-- become -/
def becomeSt (t : HSt) (i : Nat) (r : Row) (ds : List Deed) : HSt := if ds = r.deeds then t else ⟨t.rows.set i { r with deeds := ds }, t.past ++ [(i, r.deeds)]⟩
theorem G_become (h : HallAt S x t) (hr : t.rows[i]? = some r) {ds : List Deed} (hf : Fits r.pic ds) (hpl : t.past.length < 900000) :
    ∃ S', F_Hall_become [.ref x.h, .int i, deedsD ds] S = .ok .non S' ∧ HallAt S' x (becomeSt t i r ds) ∧ Step S S' x x t.n t.n := by
  have hi : i < t.n := (List.getElem?_eq_some_iff.1 hr).1
  have hk := h.ik i r hr
  have e : F_Hall_become [.ref x.h, .int i, deedsD ds] S = bodyRes (b_Hall_become [some (.ref x.h), some (.int i), some (deedsD ds), none] S) := rfl
  unfold b_Hall_become at e
  rw [sq_set (S1 := S) (d := .ref (x.K i)) (by simp [h.rows, h.ixR hi])] at e
  simp only [List.set_cons_succ, List.set_cons_zero] at e
  rw [sq_ex (S1 := S) (d := gr (shownP r.pic ds)) (by simp [r_first S hk, behind_ok hf])] at e
  by_cases c : ds = r.deeds
  · refine ⟨S, ?_, ?_, .refl _ _ _⟩
    · rw [e]
      simp [sIf, r_deeds S hk, ne_deeds, c, sNil]
    · rw [becomeSt, if_pos c]; exact h
  · have hpd := h.setPast (t.past ++ [(i, r.deeds)])
    have hk2 := hpd.ik i r hr
    refine ⟨(S.set (x.L 1) (.lst ((t.past ++ [(i, r.deeds)]).map pastD))).set (x.K i) (rowO (x.L (2 + 2 * i)) (x.L (3 + 2 * i)) { r with deeds := ds }), ?_, ?_, ?_⟩
    · rw [e]
      have ht : tVal (e2 (eqD true) (eVar 2) (e2 dgetS (eVar 3) (eC (.str "deeds")))) [some (.ref x.h), some (.int i), some (deedsD ds), some (.ref (x.K i))] S = .ok true S := by simp [r_deeds S hk, ne_deeds, c]
      simp only [sIf, ht, Res.then_ok, if_true]
      have hap : appendD (.ref (x.L 1)) [pastD (i, r.deeds)] S = .ok .non (S.set (x.L 1) (.lst ((t.past ++ [(i, r.deeds)]).map pastD))) := by
        have : (t.past.map pastD).length < sz := by simp; unfold sz; omega
        simp only [appendD, h.ip, if_pos this, List.map_append, List.map_cons, List.map_nil]
      rw [sq_ex (S1 := S.set (x.L 1) (.lst ((t.past ++ [(i, r.deeds)]).map pastD))) (d := .non) (by
        have hls : lstOf S (.ref (x.L 1)) = some (t.past.map pastD) := by simp [lstOf, h.ip]
        simp only [eMethL, ap_1, ap_var, List.getElem?_cons_succ, List.getElem?_cons_zero, Res.bind_ok, h.past, hls]
        simp [r_deeds S hk]
        rw [List.map_append] at hap
        exact hap)]
      rw [dput_eq (S1 := S.set (x.L 1) (.lst ((t.past ++ [(i, r.deeds)]).map pastD))) (S2 := S.set (x.L 1) (.lst ((t.past ++ [(i, r.deeds)]).map pastD))) (S3 := S.set (x.L 1) (.lst ((t.past ++ [(i, r.deeds)]).map pastD))) (d := deedsD ds) (n := x.K i) (k := "deeds") (by simp) (by simp) (by simp) hk2 (by simp)]
      rw [setA_deeds]
      rfl
    · rw [becomeSt, if_neg c]
      exact hpd.setRow hr { r with deeds := ds } rfl rfl rfl
    · exact (Step.set (t := t) _ (.inr (.inr (.inr ⟨1, by omega, rfl⟩)))).trans (Step.set (t := t) _ (.inr (.inr (.inl ⟨i, hi, rfl⟩))))
theorem G_becomeX (h : HallAt S x t) (hr : t.rows[i]? = some r) {ds : List Deed} (hp : OkP r.pic) (hd : ds.all okDeed = true) (he : szs ds r.pic.1 = none) : F_Hall_become [.ref x.h, .int i, deedsD ds] S = .exc "NoCut" S := by
  have hi : i < t.n := (List.getElem?_eq_some_iff.1 hr).1
  have hk := h.ik i r hr
  have e : F_Hall_become [.ref x.h, .int i, deedsD ds] S = bodyRes (b_Hall_become [some (.ref x.h), some (.int i), some (deedsD ds), none] S) := rfl
  unfold b_Hall_become at e
  rw [sq_set (S1 := S) (d := .ref (x.K i)) (by simp [h.rows, h.ixR hi])] at e
  simp only [List.set_cons_succ, List.set_cons_zero] at e
  rw [sq_exx (S1 := S) (c := "NoCut") (by simp [r_first S hk, behind_no hp hd he])] at e
  rw [e]; rfl
end
end Py
set_option maxRecDepth 100000
set_option maxHeartbeats 1000000
namespace Py
open PySem PySem.Spec PyProof.Rows L2
/-! ### lists of texts -/
abbrev strsD (zs : List Str) : List D := zs.map .str
def okS (zs : List Str) : Bool := zs.all PyData.strOk
theorem str_inj {zs ws : List Str} (h : strsD zs = strsD ws) : zs = ws := (List.map_inj_right (fun a b e => D.str.inj e)).1 h
theorem pl_strs (n : Nat) {zs : List Str} (h : okS zs = true) : pl (n + 2) (.lst (strsD zs)) = true := by
  simp only [pl, List.all_map, List.all_eq_true] at h ⊢
  intro z hz
  exact (List.all_eq_true.1 h) z hz
theorem dP_ref {S : Sto} {k : Nat} {ds : List D} (h : S[k]? = some (.lst ds)) : dP S (.ref k) = dP S (.lst ds) := by
  show toP 12 S (.ref k) = toP 12 S (.lst ds)
  simp only [toP, h]
theorem eqD_refL {S : Sto} {k : Nat} {ds : List D} {y : D} {neg : Bool} (h : S[k]? = some (.lst ds)) : eqD neg (.ref k) y S = eqD neg (.lst ds) y S := by simp only [eqD, dP_ref h]
theorem eqD_refR {S : Sto} {k : Nat} {ds : List D} {x : D} {neg : Bool} (h : S[k]? = some (.lst ds)) : eqD neg x (.ref k) S = eqD neg x (.lst ds) S := by simp only [eqD, dP_ref h]
theorem inD_refR {S : Sto} {k : Nat} {ds : List D} {x : D} {neg : Bool} (h : S[k]? = some (.lst ds)) : inD neg x (.ref k) S = inD neg x (.lst ds) S := by simp only [inD, dP_ref h]
theorem eq_strs {zs ws : List Str} (hz : okS zs = true) (hw : okS ws = true) (neg : Bool) (S : Sto) : eqD neg (.lst (strsD zs)) (.lst (strsD ws)) S = .ok (.bl (if neg then !decide (zs = ws) else decide (zs = ws))) S := by
  rw [eqD_pl (pl_strs 10 hz) (pl_strs 10 hw)]
  by_cases c : zs = ws
  · subst c; simp
  · have c' : ¬ D.lst (strsD zs) = D.lst (strsD ws) := fun h => c (str_inj (D.lst.inj h))
    simp [c, c']
theorem in_strs {z : Str} {ws : List Str} (hz : PyData.strOk z = true) (hw : okS ws = true) (neg : Bool) (S : Sto) : inD neg (.str z) (.lst (strsD ws)) S = .ok (.bl (if neg then !decide (z ∈ ws) else decide (z ∈ ws))) S := by
  rw [in_plL (by simp [pl, hz]) (by
    have := pl_strs 10 hw
    simpa [pl] using this)]
  by_cases c : z ∈ ws
  · have c' : D.str z ∈ strsD ws := List.mem_map_of_mem c
    simp [c, c']
  · have c' : ¬ D.str z ∈ strsD ws := fun h => c (by
      obtain ⟨w, hw, e⟩ := List.mem_map.1 h
      cases e; exact hw)
    simp [c, c']
theorem toPs_strs {n : Nat} {S : Sto} : ∀ {zs : List Str}, okS zs = true → toPs (toP (n + 1) S) (strsD zs) = some (zs.map .str)
  | [], h => rfl
  | z :: zs, h => by
    simp only [okS, List.all_cons, Bool.and_eq_true] at h
    have ih := toPs_strs (n := n) (S := S) (zs := zs) h.2
    simp only [strsD, List.map_cons, toPs, toP, h.1, if_true] at ih ⊢
    rw [ih]
/-! ### words, places -/
abbrev LET : Str := "abcdefghijklmnopqrstuvwxyz"
def wordB (z : Str) : Bool := decide (1 ≤ z.length) && decide (z.length ≤ 6) && (Txt.stripChars z LET == "")
theorem isStr (z : Str) (S : Sto) : isiD [.str z, .ty "str"] S = .ok (.bl true) S := s_isS z S
theorem F_word {z : Str} (hl : z.length ≤ 1000) (hok : PyData.strOk (Txt.stripChars z LET) = true) (S : Sto) : F_is_word [.str z] S = .ok (.bl (wordB z)) S := by
  show bodyRes (b_is_word [some (.str z)] S) = _
  have hz : z.length ≤ sz := by unfold sz; omega
  have h1 : lenD [.str z] S = .ok (.int z.length) S := by simp only [lenD, if_pos hz]
  have h2 : stripD (.str z) (.str "abcdefghijklmnopqrstuvwxyz") S = .ok (.str (Txt.stripChars z LET)) S := by simp only [stripD, if_pos hz]
  have h3 := eqD_str (S := S) hok (show PyData.strOk "" = true by decide +kernel) rfl
  unfold b_is_word
  simp only [sRet, ap_and, ap_call, ap_cons, ap_nil, ap_var, ap_c, ap_chain, ap_2, eM1, List.getElem?_cons_zero, Res.bind_ok, isStr, h1, ap_le, h2, h3, if_true]
  by_cases c1 : 1 ≤ z.length
  · by_cases c2 : z.length ≤ 6
    · have c1' : (1 : Int) ≤ (z.length : Int) := by omega
      have c2' : (z.length : Int) ≤ 6 := by omega
      simp [wordB, c1, c2, c1', c2', h2, h3]
    · have c1' : (1 : Int) ≤ (z.length : Int) := by omega
      have c2' : ¬ (z.length : Int) ≤ 6 := by omega
      simp [wordB, c1, c2, c1', c2']
  · have c1' : ¬ (1 : Int) ≤ (z.length : Int) := by omega
    simp [wordB, c1, c1']
theorem F_wordX {d : D} {S : Sto} (h : Ty S d) (hs : isS d = false) : F_is_word [d] S = .ok (.bl false) S := by
  show bodyRes (b_is_word [some d] S) = _
  have h1 := isi_str (S := S) h
  unfold b_is_word
  simp only [sRet, ap_and, ap_call, ap_cons, ap_nil, ap_var, ap_c, List.getElem?_cons_zero, Res.bind_ok, h1, hs]
  rfl
def partsOk (z : Str) : Bool := (Txt.split z "/").all fun w => decide (w.length ≤ 1000) && PyData.strOk (Txt.stripChars w LET)
def placeB (z : Str) : Bool := decide (z.length ≤ 20) && (Txt.split z "/").all wordB
theorem F_place {z : Str} (hl : z.length ≤ 1000) (hok : partsOk z = true) (hn : (Txt.split z "/").length ≤ 1000) (S : Sto) : F_is_place [.str z] S = .ok (.bl (placeB z)) S := by
  show bodyRes (b_is_place [some (.str z), none] S) = _
  have hz : z.length ≤ sz := by unfold sz; omega
  have h1 : lenD [.str z] S = .ok (.int z.length) S := by simp only [lenD, if_pos hz]
  have h2 : splitD (.str z) (.str "/") S = .ok (.lst (strsD (Txt.split z "/"))) S := by
    have : z.length + 2 ≤ sz := by (unfold sz; omega)
    have h0 : ((("/" : Str)).length == 0) = false := by decide +kernel
    simp only [splitD, h0, this, and_self, if_true]
  unfold b_is_place
  by_cases c : z.length ≤ 20
  · have c' : ¬ (20 : Int) < (z.length : Int) := by omega
    rw [sq_f (S1 := S) (by simp [isStr, h1, c'])]
    rw [sRet, eCall, aCons, comp_seq (S1 := S) (ds := strsD (Txt.split z "/")) (φ := fun d => match d with | .str w => .bl (wordB w) | _ => .non)]
    · have : (strsD (Txt.split z "/")).map (fun d => match d with | D.str w => D.bl (wordB w) | _ => .non) = (Txt.split z "/").map fun w => D.bl (wordB w) := by simp [strsD, List.map_map, Function.comp_def]
      rw [this]
      simp [aNil, allD, boolsD, placeB, c, List.all_map, Function.comp_def]
    · right; simp [eM1, h2]
    · simp; unfold sz; omega
    · intro d hd
      obtain ⟨w, hw, rfl⟩ := List.mem_map.1 hd
      have := (List.all_eq_true.1 hok) w hw
      simp only [Bool.and_eq_true, decide_eq_true_eq] at this
      simp [wipeF, F_word this.1 this.2]
  · have c' : (20 : Int) < (z.length : Int) := by omega
    rw [sq_t (S1 := S) (by simp [isStr, h1, c'])]
    simp [sSeq, sRet, placeB, c]
theorem F_placeX {d : D} {S : Sto} (h : Ty S d) (hs : isS d = false) : F_is_place [d] S = .ok (.bl false) S := by
  show bodyRes (b_is_place [some d, none] S) = _
  have h1 := isi_str (S := S) h
  unfold b_is_place
  rw [sq_t (S1 := S) (by simp [h1, hs])]
  simp [sSeq, sRet]
/-! ### change, mark, star -/
theorem nf_mark : (("mark" : Str) == "rows") = false ∧ (("mark" : Str) == "by") = false ∧ (("mark" : Str) == "past") = false := by decide +kernel
theorem nf_marks : (("marks" : Str) == "rows") = false ∧ (("marks" : Str) == "by") = false ∧ (("marks" : Str) == "past") = false := by decide +kernel
theorem nf_star : (("star" : Str) == "rows") = false ∧ (("star" : Str) == "by") = false ∧ (("star" : Str) == "past") = false := by decide +kernel
theorem nf_album : (("album" : Str) == "rows") = false ∧ (("album" : Str) == "by") = false ∧ (("album" : Str) == "past") = false := by decide +kernel
theorem nf_saved : (("saved" : Str) == "rows") = false ∧ (("saved" : Str) == "by") = false ∧ (("saved" : Str) == "past") = false := by decide +kernel
theorem nf_known : (("known" : Str) == "rows") = false ∧ (("known" : Str) == "by") = false ∧ (("known" : Str) == "past") = false := by decide +kernel
theorem nf_without : (("without" : Str) == "rows") = false ∧ (("without" : Str) == "by") = false ∧ (("without" : Str) == "past") = false := by decide +kernel
theorem nf_like : (("like" : Str) == "rows") = false ∧ (("like" : Str) == "by") = false ∧ (("like" : Str) == "past") = false := by decide +kernel
theorem nf_undo : (("undo" : Str) == "rows") = false ∧ (("undo" : Str) == "by") = false ∧ (("undo" : Str) == "past") = false := by decide +kernel
theorem nf_plain : (("make_plain" : Str) == "rows") = false ∧ (("make_plain" : Str) == "by") = false ∧ (("make_plain" : Str) == "past") = false := by decide +kernel
theorem nf_twins : (("twins" : Str) == "rows") = false ∧ (("twins" : Str) == "by") = false ∧ (("twins" : Str) == "past") = false := by decide +kernel
section
variable {S : Sto} {x : HIx} {t : HSt} {i : Nat} {r : Row}
theorem need_exc (h : HallAt S x t) {d : D} (hd : Ty S d) (hw : isW 0 ((t.n : Int) - 1) d = false) {fr : Fr} (h0 : fr[0]? = some (some (.ref x.h))) (h1 : fr[1]? = some (some d)) : eMeth "need" F_Hall_need (eVar 0) (aCons (eVar 1) aNil) fr S = .exc "NoNumber" S := by
  rw [h.meth (by simp [h0]) nf_need]
  simp [h1, G_needX h hd hw]
theorem one_deed {d : Deed} (hd : okDeed d = true) (S : Sto) : F_are_deeds [.tup [d.d]] S = .ok (.bl true) S := by
  have := F_deeds (ds := [d]) (by simp [hd]) (by simp) S
  exact this
/-- one deed more: it fits -/
theorem G_change (h : HallAt S x t) (hr : t.rows[i]? = some r) {d : Deed} (hd : okDeed d = true) (hl : r.deeds.length < 20) (hf : Fits r.pic (r.deeds ++ [d])) (hpl : t.past.length < 900000) :
    ∃ S', F_Hall_change [.ref x.h, .int i, d.d] S = .ok .non S' ∧ HallAt S' x (becomeSt t i r (r.deeds ++ [d])) ∧ Step S S' x x t.n t.n := by
  have hi : i < t.n := (List.getElem?_eq_some_iff.1 hr).1
  have hk := h.ik i r hr
  obtain ⟨S', e1, q2, q3⟩ := G_become h hr hf hpl
  refine ⟨S', ?_, q2, q3⟩
  have e : F_Hall_change [.ref x.h, .int i, d.d] S = bodyRes (b_Hall_change [some (.ref x.h), some (.int i), some d.d, none] S) := rfl
  rw [e]
  unfold b_Hall_change
  rw [sq_set (S1 := S) (d := .ref (x.K i)) (need_eq h hi rfl rfl)]
  simp only [List.set_cons_succ, List.set_cons_zero]
  have hne : ¬ ((r.deeds.length : Int) = 20) := by omega
  rw [sq_f (S1 := S) (by simp [one_deed hd, r_deeds S hk, deedsD, hne])]
  have ha : addD (deedsD r.deeds) (.tup [d.d]) S = .ok (deedsD (r.deeds ++ [d])) S := by
    have := add_deeds (as := r.deeds) (bs := [d]) (S := S) (by simp; omega)
    exact this
  have hm : eMeth "become" F_Hall_become (eVar 0) (aCons (eVar 1) (aCons (e2 addD (e2 dgetS (eVar 3) (eC (.str "deeds"))) (eTup (aCons (eVar 2) aNil))) aNil)) [some (.ref x.h), some (.int i), some d.d, some (.ref (x.K i))] S = .ok .non S' := by
    rw [h.meth (by simp) nf_become]
    simp [r_deeds S hk, ha, e1]
  simp only [sExpr, hm, Res.then_ok]
  rfl
theorem G_changeFull (h : HallAt S x t) (hr : t.rows[i]? = some r) {d : Deed} (hd : okDeed d = true) (hl : r.deeds.length = 20) : F_Hall_change [.ref x.h, .int i, d.d] S = .exc "NoDeeds" S := by
  have hi : i < t.n := (List.getElem?_eq_some_iff.1 hr).1
  have hk := h.ik i r hr
  have e : F_Hall_change [.ref x.h, .int i, d.d] S = bodyRes (b_Hall_change [some (.ref x.h), some (.int i), some d.d, none] S) := rfl
  rw [e]
  unfold b_Hall_change
  rw [sq_set (S1 := S) (d := .ref (x.K i)) (need_eq h hi rfl rfl)]
  simp only [List.set_cons_succ, List.set_cons_zero]
  rw [sq_t (S1 := S) (by simp [one_deed hd, r_deeds S hk, deedsD, hl])]
  simp [sSeq, sRaise]
theorem G_changeCut (h : HallAt S x t) (hr : t.rows[i]? = some r) {d : Deed} (hd : okDeed d = true) (hl : r.deeds.length < 20) (hp : OkP r.pic) (ha : (r.deeds ++ [d]).all okDeed = true) (he : szs (r.deeds ++ [d]) r.pic.1 = none) : F_Hall_change [.ref x.h, .int i, d.d] S = .exc "NoCut" S := by
  have hi : i < t.n := (List.getElem?_eq_some_iff.1 hr).1
  have hk := h.ik i r hr
  have e1 := G_becomeX h hr hp ha he
  have e : F_Hall_change [.ref x.h, .int i, d.d] S = bodyRes (b_Hall_change [some (.ref x.h), some (.int i), some d.d, none] S) := rfl
  rw [e]
  unfold b_Hall_change
  rw [sq_set (S1 := S) (d := .ref (x.K i)) (need_eq h hi rfl rfl)]
  simp only [List.set_cons_succ, List.set_cons_zero]
  have hne : ¬ ((r.deeds.length : Int) = 20) := by omega
  rw [sq_f (S1 := S) (by simp [one_deed hd, r_deeds S hk, deedsD, hne])]
  have ha : addD (deedsD r.deeds) (.tup [d.d]) S = .ok (deedsD (r.deeds ++ [d])) S := by
    have := add_deeds (as := r.deeds) (bs := [d]) (S := S) (by simp; omega)
    exact this
  have hm : eMeth "become" F_Hall_become (eVar 0) (aCons (eVar 1) (aCons (e2 addD (e2 dgetS (eVar 3) (eC (.str "deeds"))) (eTup (aCons (eVar 2) aNil))) aNil)) [some (.ref x.h), some (.int i), some d.d, some (.ref (x.K i))] S = .exc "NoCut" S := by
    rw [h.meth (by simp) nf_become]
    simp [r_deeds S hk, ha, e1]
  simp only [sExpr, hm, Res.then_exc]
  rfl
/-- mark -/
def toggle (w : Str) (ms : List Str) : List Str := if w ∈ ms then ms.erase w else ms ++ [w]
theorem erase_find {w : Str} (hw : PyData.strOk w = true) : ∀ {ms : List Str}, okS ms = true → (strsD ms).eraseIdx ((ms.map PyData.str).findIdx fun z => PyData.eqv z (.str w)) = strsD (ms.erase w)
  | [], h => rfl
  | m :: ms, h => by
    simp only [okS, List.all_cons, Bool.and_eq_true] at h
    have ih := erase_find hw (ms := ms) h.2
    by_cases c : m = w
    · subst c
      simp [List.findIdx_cons, PyData.eqv]
    · have c' : (m == w) = false := by simpa using c
      simp only [List.map_cons, List.findIdx_cons, PyData.eqv, c', cond_false, strsD, List.eraseIdx_cons_succ, List.erase_cons, Bool.false_eq_true, if_false]
      simp only [strsD] at ih
      rw [ih]
theorem G_mark (h : HallAt S x t) (hr : t.rows[i]? = some r) {w : Str} (hw : wordB w = true) (hl : w.length ≤ 1000) (hok : PyData.strOk w = true) (hos : PyData.strOk (Txt.stripChars w LET) = true) (hm : okS r.marks = true) (hml : r.marks.length < 1000) :
    ∃ S', F_Hall_mark [.ref x.h, .int i, .str w] S = .ok (.bl (!decide (w ∈ r.marks))) S' ∧ HallAt S' x (t.setR i { r with marks := toggle w r.marks }) ∧ Step S S' x x t.n t.n := by
  have hi : i < t.n := (List.getElem?_eq_some_iff.1 hr).1
  have hk := h.ik i r hr
  have hmk := h.im i r hr
  have hown : own x t.n (x.L (3 + 2 * i)) := .inr (.inr (.inr ⟨3 + 2 * i, by omega, rfl⟩))
  refine ⟨S.set (x.L (3 + 2 * i)) (.lst (strsD (toggle w r.marks))), ?_, ?_, Step.set _ hown⟩
  · have e : F_Hall_mark [.ref x.h, .int i, .str w] S = bodyRes (b_Hall_mark [some (.ref x.h), some (.int i), some (.str w), none] S) := rfl
    rw [e]
    unfold b_Hall_mark
    rw [sq_set (S1 := S) (d := .ref (x.K i)) (need_eq h hi rfl rfl)]
    simp only [List.set_cons_succ, List.set_cons_zero]
    rw [sq_f (S1 := S) (by simp [F_word hl hos, hw])]
    have hin := in_strs hok hm false S
    rw [← inD_refR hmk] at hin
    have hls : lstOf S (.ref (x.L (3 + 2 * i))) = some (strsD r.marks) := by simp [lstOf, hmk]
    by_cases c : w ∈ r.marks
    · rw [sq_t (S1 := S) (by simp [r_marks S hk, hin, c])]
      have hrem : removeD (.ref (x.L (3 + 2 * i))) [.str w] S = .ok .non (S.set (x.L (3 + 2 * i)) (.lst (strsD (toggle w r.marks)))) := by
        have h1 : toPs (toP 11 S) (strsD r.marks) = some (r.marks.map .str) := toPs_strs hm
        have h2 : dP S (.str w) = some (.str w) := by show toP 12 S (.str w) = _; simp [toP, hok]
        have h3 : (r.marks.map PyData.str).any (fun z => PyData.eqv z (.str w)) = true := by
          rw [List.any_map, List.any_eq_true]
          exact ⟨w, c, by simp [PyData.eqv]⟩
        simp only [removeD, hmk, h1, h2, h3, if_true, erase_find hok hm, toggle, if_pos c]
      simp only [sSeq, sExpr, eMethL, ap_2, ap_var, ap_c, List.getElem?_cons_succ, List.getElem?_cons_zero, Res.bind_ok, r_marks S hk, hls, ap_cons, ap_nil, hrem, Res.then_ok, sRet]
      simp [c]
    · rw [sq_f (S1 := S) (by simp [r_marks S hk, hin, c])]
      have hap : appendD (.ref (x.L (3 + 2 * i))) [.str w] S = .ok .non (S.set (x.L (3 + 2 * i)) (.lst (strsD (toggle w r.marks)))) := by
        have : (strsD r.marks).length < sz := by simp; unfold sz; omega
        simp only [appendD, hmk, if_pos this, toggle, if_neg c, strsD, List.map_append, List.map_cons, List.map_nil]
      simp only [sSeq, sExpr, eMethL, ap_2, ap_var, ap_c, List.getElem?_cons_succ, List.getElem?_cons_zero, Res.bind_ok, r_marks S hk, hls, ap_cons, ap_nil, hap, Res.then_ok, sRet]
      simp [c]
  · refine h.setLst (a := 3 + 2 * i) (by omega) (by omega) (toggle w r.marks) _ rfl (by simp [HSt.n]) fun j q hq => ?_
    by_cases c : j = i
    · subst c
      have : (t.rows.set j { r with marks := toggle w r.marks })[j]? = some { r with marks := toggle w r.marks } := by rw [List.getElem?_set_self hi]
      rw [this] at hq
      cases hq
      refine ⟨r, hr, rfl, rfl, rfl, rfl, ?_, ?_⟩
      · rw [if_neg (by omega)]
      · rw [if_pos rfl]
    · have : (t.rows.set i { r with marks := toggle w r.marks })[j]? = t.rows[j]? := List.getElem?_set_ne (Ne.symm c)
      rw [this] at hq
      refine ⟨q, hq, rfl, rfl, rfl, rfl, ?_, ?_⟩
      · rw [if_neg (by omega)]
      · rw [if_neg (by omega)]
/-- star -/
theorem G_star (h : HallAt S x t) (hr : t.rows[i]? = some r) {k : Int} (h0 : 0 ≤ k) (h5 : k ≤ 5) :
    ∃ S', F_Hall_star [.ref x.h, .int i, .int k] S = .ok (.int r.stars) S' ∧ HallAt S' x (t.setR i { r with stars := k }) ∧ Step S S' x x t.n t.n := by
  have hi : i < t.n := (List.getElem?_eq_some_iff.1 hr).1
  have hk := h.ik i r hr
  refine ⟨S.set (x.K i) (rowO (x.L (2 + 2 * i)) (x.L (3 + 2 * i)) { r with stars := k }), ?_, h.setRow hr _ rfl rfl rfl, Step.set _ (.inr (.inr (.inl ⟨i, hi, rfl⟩)))⟩
  have e : F_Hall_star [.ref x.h, .int i, .int k] S = bodyRes (b_Hall_star [some (.ref x.h), some (.int i), some (.int k), none, none] S) := rfl
  rw [e]
  unfold b_Hall_star
  rw [sq_set (S1 := S) (d := .ref (x.K i)) (need_eq h hi rfl rfl)]
  simp only [List.set_cons_succ, List.set_cons_zero]
  have hw : F_is_whole [.int k, .int 0, .int 5] S = .ok (.bl true) S := by
    rw [F_whole ⟨_, rfl⟩]; simp [isW, h0, h5]
  rw [sq_f (S1 := S) (by simp [hw])]
  rw [sq_set (S1 := S) (d := .int r.stars) (by simp [r_stars S hk])]
  simp only [List.set_cons_succ, List.set_cons_zero]
  rw [sq_nx (dput_eq (S1 := S) (S2 := S) (S3 := S) (d := .int k) (n := x.K i) (k := "stars") (by simp) (by simp) (by simp) hk (by simp))]
  rw [setA_stars]
  simp [sRet]
/-- marks, rising -/
theorem sort_ok {zs : List Str} (h : okS zs = true) : PySem.W.AllAlike (zs.map PyData.str) ∧ PySem.W.Sortable (zs.map PyData.str) := by
  refine ⟨fun a ha b hb => ?_, .inr fun d hd => ?_⟩
  · obtain ⟨z, _, rfl⟩ := List.mem_map.1 ha
    obtain ⟨w, _, rfl⟩ := List.mem_map.1 hb
    simp [PySem.W.alike]
  · obtain ⟨z, _, rfl⟩ := List.mem_map.1 hd
    exact ⟨by simp, by simp⟩
def sortS (zs : List Str) : List Str := zs.mergeSort fun a b => decide (a.cps.toList ≤ b.cps.toList)
end
end Py
set_option maxRecDepth 100000
set_option maxHeartbeats 1000000
namespace Py
open PySem PySem.Spec PyProof.Rows L2
/-! ### files -/
def fileD (f : Str × Pic) : D := .tup [.str f.1, gr f.2]
def placeOkB (z : Str) : Bool := decide (z.length ≤ 1000) && partsOk z && decide ((Txt.split z "/").length ≤ 1000) && placeB z && PyData.strOk z && decide ([] < z.cps.toList)
theorem placeOk_iff {z : Str} : placeOkB z = true ↔ z.length ≤ 1000 ∧ partsOk z = true ∧ (Txt.split z "/").length ≤ 1000 ∧ placeB z = true ∧ PyData.strOk z = true ∧ [] < z.cps.toList := by
  simp only [placeOkB, Bool.and_eq_true, decide_eq_true_eq]
  constructor
  · rintro ⟨⟨⟨⟨⟨a, b⟩, c⟩, d⟩, e⟩, f⟩; exact ⟨a, b, c, d, e, f⟩
  · rintro ⟨a, b, c, d, e, f⟩; exact ⟨⟨⟨⟨⟨a, b⟩, c⟩, d⟩, e⟩, f⟩
def Rising (zs : List Str) : Prop := zs.Pairwise fun a b => a.cps.toList < b.cps.toList
structure FilesOk (fs : List (Str × Pic)) : Prop where
  len : fs.length ≤ 60
  pl : ∀ f ∈ fs, placeOkB f.1 = true
  pc : ∀ f ∈ fs, OkP f.2
  inc : Rising (fs.map (·.1))
theorem F_pic_gr {p : Pic} (h : OkP p) (S : Sto) : F_is_picture [gr p] S = .ok (.bl true) S := by
  have := F_pic (x := gr p) (S := S) ty3_grid
  rw [this]
  unfold gr
  rw [isPic_grid h.1 h.2]
noncomputable abbrev lp_files : MS := (sSeq (sIf (tOrM (tNotM (tVal (eCall isiD (aCons (eVar 2) (aCons (eC (.ty "tuple")) aNil))))) (tOrM (tVal (e2 (eqD true) (eCall lenD (aCons (eVar 2) aNil)) (eC (.int 2)))) (tOrM (tNotM (tVal (eCall F_is_place (aCons (e2 ixD (eVar 2) (eC (.int 0))) aNil)))) (tNotM (tVal (eCall F_is_picture (aCons (e2 ixD (eVar 2) (eC (.int 1))) aNil)))))))
    (sRet (eC (.bl false)))
    sNil)
    (sSeq (sIf (tVal (e2 leD (e2 ixD (eVar 2) (eC (.int 0))) (eVar 1)))
    (sRet (eC (.bl false)))
    sNil)
    (sSet 1 (e2 ixD (eVar 2) (eC (.int 0))))))
theorem f_ix0 (f : Str × Pic) (S : Sto) : ixD (fileD f) (.int 0) S = .ok (.str f.1) S := ix_tup (ds := [.str f.1, gr f.2]) (j := 0) rfl (by simp)
theorem f_ix1 (f : Str × Pic) (S : Sto) : ixD (fileD f) (.int 1) S = .ok (gr f.2) S := ix_tup (ds := [.str f.1, gr f.2]) (j := 1) rfl (by simp)
theorem le_str {a b : Str} (S : Sto) : leD (.str a) (.str b) S = .ok (.bl (!decide (b.cps.toList < a.cps.toList))) S := id rfl
theorem f_isT (f : Str × Pic) (S : Sto) : isiD [fileD f, .ty "tuple"] S = .ok (.bl true) S := by
  rw [isi_tup ⟨_, rfl⟩]; rfl
theorem file_step {f : Str × Pic} {last : Str} (h1 : placeOkB f.1 = true) (h2 : OkP f.2) (h3 : last.cps.toList < f.1.cps.toList) (S : Sto) (Z : Option D) : lp_files [Z, some (.str last), some (fileD f)] S = .nx [Z, some (.str f.1), some (fileD f)] S := by
  obtain ⟨a1, a2, a3, a4, a5, a6⟩ := placeOk_iff.1 h1
  unfold lp_files
  rw [sq_f (S1 := S) (by
    simp only [ap_tor, ap_tnot, ap_val, ap_call, ap_cons, ap_nil, ap_var, ap_c, ap_2, List.getElem?_cons_succ, List.getElem?_cons_zero, Res.bind_ok, f_isT, f_ix0, f_ix1, F_place a1 a2 a3, a4, F_pic_gr h2]
    simp [fileD])]
  rw [sq_f (S1 := S) (by simp [f_ix0, le_str, h3])]
  simp [sSet, f_ix0]
theorem loop_files {it : Its} (hi : it.guard = none) (S : Sto) (Z : Option D) : ∀ (fs : List (Str × Pic)) (last : Str) (o2 : Option D), (∀ f ∈ fs, placeOkB f.1 = true) → (∀ f ∈ fs, OkP f.2) → (∀ f ∈ fs, last.cps.toList < f.1.cps.toList) → Rising (fs.map (·.1)) →
    ∃ a b, loopF it (gN 2) lp_files (fs.map fileD) [Z, some (.str last), o2] S = .nx [Z, a, b] S
  | [], last, o2, _, _, _, _ => ⟨_, _, by rw [List.map_nil, loopF_nil hi]⟩
  | f :: fs, last, o2, h1, h2, h3, h4 => by
    simp only [List.map_cons, Rising, List.pairwise_cons] at h4
    obtain ⟨a, b, ih⟩ := loop_files hi S Z fs f.1 (some (fileD f)) (fun g hg => h1 g (List.mem_cons_of_mem _ hg)) (fun g hg => h2 g (List.mem_cons_of_mem _ hg)) (fun g hg => h4.1 g.1 (List.mem_map_of_mem hg)) h4.2
    refine ⟨a, b, ?_⟩
    rw [List.map_cons, loopF_cons hi (g := gN 2) (fr1 := [Z, some (.str last), some (fileD f)]) rfl (file_step (h1 f (List.mem_cons_self ..)) (h2 f (List.mem_cons_self ..)) (h3 f (List.mem_cons_self ..)) S Z)]
    exact ih
theorem F_files {fs : List (Str × Pic)} (h : FilesOk fs) (S : Sto) : F_are_files [.tup (fs.map fileD)] S = .ok (.bl true) S := by
  have e : F_are_files [.tup (fs.map fileD)] S = bodyRes (b_are_files [some (.tup (fs.map fileD)), none, none] S) := rfl
  rw [e]
  unfold b_are_files
  have hl := h.len
  have c : ¬ (60 : Int) < (fs.length : Int) := by omega
  have ht : isiD [.tup (fs.map fileD), .ty "tuple"] S = .ok (.bl true) S := by rw [isi_tup ⟨_, rfl⟩]; rfl
  rw [sq_f (S1 := S) (by simp [ht, c])]
  rw [sq_set (S1 := S) (d := .str "") (by simp)]
  simp only [List.set_cons_succ, List.set_cons_zero]
  obtain ⟨a, b, hL⟩ := loop_files (it := ⟨fs.map fileD, none⟩) rfl S (some (.tup (fs.map fileD))) fs "" none h.pl h.pc (fun f hf => (placeOk_iff.1 (h.pl f hf)).2.2.2.2.2) h.inc
  rw [sq_nx (show sFor _ (gN 2) lp_files _ _ = _ by simp only [sFor, iSeq, ap_var, List.getElem?_cons_zero, Res.bind_ok, seqIts, Res.then_ok]; exact hL)]
  simp [sRet]
/-! ### where a picture is -/
def idxP : List Row → Pic → Option Nat
  | [], _ => none
  | r :: rs, p => if gkey r.pic = gkey p then some 0 else (idxP rs p).map (· + 1)
theorem getA_byL (p : Pic) : ∀ (rs : List Row) (k : Nat), getA (byL k rs) (gkey p) = (idxP rs p).map fun i => D.int ((k + i : Nat) : Int)
  | [], k => rfl
  | r :: rs, k => by
    by_cases c : gkey r.pic = gkey p
    · simp [byL, getA, idxP, c]
    · have ih := getA_byL p rs (k + 1)
      have e : getA (byL k (r :: rs)) (gkey p) = getA (byL (k + 1) rs) (gkey p) := by simp [byL, getA, c]
      rw [e, ih]
      simp only [idxP, if_neg c, Option.map_map]
      congr 1
      funext i
      simp only [Function.comp]
      congr 2
      omega
theorem byL_app : ∀ (rs : List Row) (k : Nat) (r : Row), byL k (rs ++ [r]) = byL k rs ++ [(gkey r.pic, .int ((k + rs.length : Nat) : Int))]
  | [], k, r => by simp [byL]
  | q :: rs, k, r => by
    simp only [List.cons_append, byL, byL_app rs (k + 1) r, List.length_cons]
    rw [show k + 1 + rs.length = k + (rs.length + 1) by omega]
theorem idxP_lt {p : Pic} : ∀ {rs : List Row} {i : Nat}, idxP rs p = some i → ∃ r, rs[i]? = some r ∧ gkey r.pic = gkey p
  | [], i, h => by cases h
  | r :: rs, i, h => by
    simp only [idxP] at h
    split at h
    · cases h; exact ⟨r, rfl, by assumption⟩
    · cases e : idxP rs p with
      | none => rw [e] at h; cases h
      | some j =>
        rw [e] at h
        cases h
        obtain ⟨q, h1, h2⟩ := idxP_lt e
        exact ⟨q, by simpa using h1, h2⟩
theorem idxP_app {p : Pic} : ∀ {rs : List Row} {r : Row}, idxP (rs ++ [r]) p = match idxP rs p with | some i => some i | none => if gkey r.pic = gkey p then some rs.length else none
  | [], r => by simp [idxP]
  | q :: rs, r => by
    simp only [List.cons_append, idxP]
    split
    · rfl
    · rw [idxP_app]
      cases idxP rs p with
      | some i => rfl
      | none =>
        simp only [Option.map_none]
        split
        · simp
        · rfl
theorem idxP_map {p : Pic} {φ : Row → Row} (hφ : ∀ r, (φ r).pic = r.pic) : ∀ {rs : List Row}, idxP (rs.map φ) p = idxP rs p
  | [] => rfl
  | r :: rs => by simp only [List.map_cons, idxP, hφ, idxP_map hφ]
theorem idxP_set {p : Pic} {r' : Row} : ∀ {rs : List Row} {i : Nat}, (∀ r, rs[i]? = some r → r'.pic = r.pic) → idxP (rs.set i r') p = idxP rs p
  | [], i, h => by simp
  | r :: rs, 0, h => by simp only [List.set_cons_zero, idxP, h r rfl]
  | r :: rs, i + 1, h => by simp only [List.set_cons_succ, idxP, idxP_set fun r hr => h r (by simpa using hr)]
/-! ### a new row; new places -/
section
variable {S : Sto} {x : HIx} {t : HSt} {i : Nat} {r : Row}
def HIx.addR (x : HIx) (n l : Nat) : HIx := ⟨x.h, x.b, fun j => if j = n then l else x.K j, fun a => if a = 2 + 2 * n then l + 1 else if a = 3 + 2 * n then l + 2 else x.L a⟩
theorem HallAt.addRow (h : HallAt S x t) (q : Row) (hp : q.places = []) (hm : q.marks = []) :
    HallAt (((S.set x.b (.dP (byL 0 t.rows ++ [(gkey q.pic, .int t.n)]))) ++ [rowO (S.length + 1) (S.length + 2) q, .lst [], .lst []]).set (x.L 0) (.lst ((tb t.n fun i => .ref (x.K i)) ++ [.ref S.length]))) (x.addR t.n S.length) ⟨t.rows ++ [q], t.past⟩ := by
  have hln : (⟨t.rows ++ [q], t.past⟩ : HSt).n = t.n + 1 := by simp [HSt.n]
  have hL0 : (x.addR t.n S.length).L 0 = x.L 0 := by simp only [HIx.addR]; rw [if_neg (by omega), if_neg (by omega)]
  have hL1 : (x.addR t.n S.length).L 1 = x.L 1 := by simp only [HIx.addR]; rw [if_neg (by omega), if_neg (by omega)]
  have lt0 : x.L 0 < S.length := (List.getElem?_eq_some_iff.1 h.ir).1
  have ltb : x.b < S.length := (List.getElem?_eq_some_iff.1 h.ib).1
  have old : ∀ {j : Nat} {o : O}, S[j]? = some o → (∀ kvs, o ≠ .dP kvs) → j ≠ x.L 0 → (((S.set x.b (.dP (byL 0 t.rows ++ [(gkey q.pic, .int t.n)]))) ++ [rowO (S.length + 1) (S.length + 2) q, .lst [], .lst []]).set (x.L 0) (.lst ((tb t.n fun i => .ref (x.K i)) ++ [.ref S.length])))[j]? = some o := fun {j o} hj hne hj0 => by
    have hjl := (List.getElem?_eq_some_iff.1 hj).1
    rw [List.getElem?_set_ne (Ne.symm hj0), List.getElem?_append_left (by simpa using hjl), List.getElem?_set_ne (ne_kind h.ib hj fun e => hne _ e.symm)]
    exact hj
  have new : ∀ (k : Nat) (o : O), [rowO (S.length + 1) (S.length + 2) q, .lst [], .lst []][k]? = some o → (((S.set x.b (.dP (byL 0 t.rows ++ [(gkey q.pic, .int t.n)]))) ++ [rowO (S.length + 1) (S.length + 2) q, .lst [], .lst []]).set (x.L 0) (.lst ((tb t.n fun i => .ref (x.K i)) ++ [.ref S.length])))[S.length + k]? = some o := fun k o hk => by
    rw [List.getElem?_set_ne (by omega), List.getElem?_append_right (by simp)]
    simpa using hk
  have ll : ∀ a b, a < 2 + 2 * t.n → b < 2 + 2 * t.n → a ≠ b → x.L a ≠ x.L b := fun a b ha hb hne e => hne (h.lI a b ha hb e)
  have Llt : ∀ a, a < 2 + 2 * t.n → x.L a < S.length := fun a ha => h.lt (.inr (.inr (.inr ⟨a, ha, rfl⟩)))
  have Klt : ∀ j, j < t.n → x.K j < S.length := fun j hj => h.lt (.inr (.inr (.inl ⟨j, hj, rfl⟩)))
  refine ⟨?_, ?_, ?_, ?_, fun j q' hq => ?_, fun j q' hq => ?_, fun j q' hq => ?_, fun a b ha hb hab => ?_, fun a b ha hb hab => ?_⟩
  · rw [show hallO (x.addR t.n S.length) = hallO x by simp only [hallO, hL0, hL1]; rfl]
    exact old h.ih (by simp) (ne_kind h.ih h.ir (by simp))
  · have hb : (x.addR t.n S.length).b = x.b := rfl
    show _ = some (O.dP (byL 0 (t.rows ++ [q])))
    rw [hb, byL_app, List.getElem?_set_ne (ne_kind h.ir h.ib (by simp)), List.getElem?_append_left (by simpa using ltb), List.getElem?_set_self ltb]
    simp
  · rw [hL0, List.getElem?_set_self (by simp; omega), hln, tb_succ]
    congr 3
    · exact tb_congr fun j hj => by simp only [HIx.addR]; rw [if_neg (by omega)]
    · simp only [HIx.addR, if_pos]
  · rw [hL1]; exact old h.ip (by simp) (ll 1 0 (by omega) (by omega) (by omega))
  · have hq : (t.rows ++ [q])[j]? = some q' := hq
    by_cases c : j = t.n
    · subst c
      simp at hq
      subst hq
      simp only [HIx.addR, if_pos, if_neg (show ¬ 3 + 2 * t.n = 2 + 2 * t.n by omega)]
      exact new 0 _ rfl
    · have hj : j < t.n := by
        have := (List.getElem?_eq_some_iff.1 hq).1
        simp at this; have : j < t.n + 1 := this; omega
      rw [List.getElem?_append_left hj] at hq
      simp only [HIx.addR, if_neg c, if_neg (show ¬ 2 + 2 * j = 2 + 2 * t.n by omega), if_neg (show ¬ 2 + 2 * j = 3 + 2 * t.n by omega), if_neg (show ¬ 3 + 2 * j = 2 + 2 * t.n by omega), if_neg (show ¬ 3 + 2 * j = 3 + 2 * t.n by omega)]
      exact old (h.ik j q' hq) (by simp [rowO]) (ne_kind (h.ik j q' hq) h.ir (by simp [rowO]))
  · have hq : (t.rows ++ [q])[j]? = some q' := hq
    by_cases c : j = t.n
    · subst c
      simp at hq
      subst hq
      simp only [HIx.addR, if_pos]
      rw [hp]
      exact new 1 _ rfl
    · have hj : j < t.n := by
        have := (List.getElem?_eq_some_iff.1 hq).1
        simp at this; have : j < t.n + 1 := this; omega
      rw [List.getElem?_append_left hj] at hq
      simp only [HIx.addR, if_neg (show ¬ 2 + 2 * j = 2 + 2 * t.n by omega), if_neg (show ¬ 2 + 2 * j = 3 + 2 * t.n by omega)]
      exact old (h.il j q' hq) (by simp) (ll (2 + 2 * j) 0 (by omega) (by omega) (by omega))
  · have hq : (t.rows ++ [q])[j]? = some q' := hq
    by_cases c : j = t.n
    · subst c
      simp at hq
      subst hq
      simp only [HIx.addR, if_pos, if_neg (show ¬ 3 + 2 * t.n = 2 + 2 * t.n by omega)]
      rw [hm]
      exact new 2 _ rfl
    · have hj : j < t.n := by
        have := (List.getElem?_eq_some_iff.1 hq).1
        simp at this; have : j < t.n + 1 := this; omega
      rw [List.getElem?_append_left hj] at hq
      simp only [HIx.addR, if_neg (show ¬ 3 + 2 * j = 2 + 2 * t.n by omega), if_neg (show ¬ 3 + 2 * j = 3 + 2 * t.n by omega)]
      exact old (h.im j q' hq) (by simp) (ll (3 + 2 * j) 0 (by omega) (by omega) (by omega))
  · rw [hln] at ha hb
    simp only [HIx.addR] at hab
    by_cases ca : a = t.n
    · by_cases cb : b = t.n
      · omega
      · rw [if_pos ca, if_neg cb] at hab
        have := Klt b (by omega); omega
    · by_cases cb : b = t.n
      · rw [if_neg ca, if_pos cb] at hab
        have := Klt a (by omega); omega
      · rw [if_neg ca, if_neg cb] at hab
        exact h.kI a b (by omega) (by omega) hab
  · rw [hln] at ha hb
    simp only [HIx.addR] at hab
    by_cases ca : a = 2 + 2 * t.n
    · rw [if_pos ca] at hab
      by_cases cb : b = 2 + 2 * t.n
      · omega
      · rw [if_neg cb] at hab
        by_cases cb3 : b = 3 + 2 * t.n
        · rw [if_pos cb3] at hab; omega
        · rw [if_neg cb3] at hab
          have := Llt b (by omega); omega
    · rw [if_neg ca] at hab
      by_cases ca3 : a = 3 + 2 * t.n
      · rw [if_pos ca3] at hab
        by_cases cb : b = 2 + 2 * t.n
        · rw [if_pos cb] at hab; omega
        · rw [if_neg cb] at hab
          by_cases cb3 : b = 3 + 2 * t.n
          · omega
          · rw [if_neg cb3] at hab
            have := Llt b (by omega); omega
      · rw [if_neg ca3] at hab
        by_cases cb : b = 2 + 2 * t.n
        · rw [if_pos cb] at hab
          have := Llt a (by omega); omega
        · rw [if_neg cb] at hab
          by_cases cb3 : b = 3 + 2 * t.n
          · rw [if_pos cb3] at hab
            have := Llt a (by omega); omega
          · rw [if_neg cb3] at hab
            exact h.lI a b (by omega) (by omega) hab
theorem Step.addRow (h : HallAt S x t) (q : Row) :
    Step S (((S.set x.b (.dP (byL 0 t.rows ++ [(gkey q.pic, .int t.n)]))) ++ [rowO (S.length + 1) (S.length + 2) q, .lst [], .lst []]).set (x.L 0) (.lst ((tb t.n fun i => .ref (x.K i)) ++ [.ref S.length]))) x (x.addR t.n S.length) t.n (t.n + 1) where
  hh := rfl
  len := by simp
  old := fun j hj ho => by
    rw [List.getElem?_set_ne (fun e => ho (.inr (.inr (.inr ⟨0, by omega, e.symm⟩)))), List.getElem?_append_left (by simpa using hj), List.getElem?_set_ne (fun e => ho (.inr (.inl e.symm)))]
  new := fun j hj => by
    rcases hj with rfl | rfl | ⟨k, hk, rfl⟩ | ⟨a, ha, rfl⟩
    · exact .inl (.inl rfl)
    · exact .inl (.inr (.inl rfl))
    · simp only [HIx.addR]
      by_cases c : k = t.n
      · rw [if_pos c]; exact .inr (Nat.le_refl _)
      · rw [if_neg c]; exact .inl (.inr (.inr (.inl ⟨k, by omega, rfl⟩)))
    · simp only [HIx.addR]
      by_cases c : a = 2 + 2 * t.n
      · rw [if_pos c]; exact .inr (by omega)
      · rw [if_neg c]
        by_cases c3 : a = 3 + 2 * t.n
        · rw [if_pos c3]; exact .inr (by omega)
        · rw [if_neg c3]; exact .inl (.inr (.inr (.inr ⟨a, by omega, rfl⟩)))
def HIx.newP (x : HIx) (i l : Nat) : HIx := ⟨x.h, x.b, x.K, fun a => if a = 2 + 2 * i then l else x.L a⟩
theorem HallAt.newP (h : HallAt S x t) (hr : t.rows[i]? = some r) :
    HallAt ((S ++ [O.lst []]).set (x.K i) (rowO S.length (x.L (3 + 2 * i)) r)) (x.newP i S.length) (t.setR i { r with places := [] }) := by
  have hi : i < t.n := (List.getElem?_eq_some_iff.1 hr).1
  have hk := h.ik i r hr
  have hkl := (List.getElem?_eq_some_iff.1 hk).1
  have hL0 : (x.newP i S.length).L 0 = x.L 0 := by simp only [HIx.newP]; rw [if_neg (by omega)]
  have hL1 : (x.newP i S.length).L 1 = x.L 1 := by simp only [HIx.newP]; rw [if_neg (by omega)]
  have old : ∀ {j : Nat} {o : O}, S[j]? = some o → (∀ kvs, o ≠ .dS kvs) → ((S ++ [O.lst []]).set (x.K i) (rowO S.length (x.L (3 + 2 * i)) r))[j]? = some o := fun {j o} hj hne => by
    have hjl := (List.getElem?_eq_some_iff.1 hj).1
    rw [List.getElem?_set_ne (ne_kind hk hj fun e => hne _ e.symm), List.getElem?_append_left hjl]
    exact hj
  have Llt : ∀ a, a < 2 + 2 * t.n → x.L a < S.length := fun a ha => h.lt (.inr (.inr (.inr ⟨a, ha, rfl⟩)))
  have hn : (t.rows.set i { r with places := [] }).length = t.n := by simp
  have hsn : (t.setR i { r with places := [] }).n = t.n := hn
  refine ⟨?_, ?_, ?_, ?_, fun j q hq => ?_, fun j q hq => ?_, fun j q hq => ?_, fun a b ha hb hab => ?_, fun a b ha hb hab => ?_⟩
  · rw [show hallO (x.newP i S.length) = hallO x by simp only [hallO, hL0, hL1]; rfl]
    exact old h.ih (by simp)
  · show _ = some (O.dP (byL 0 (t.rows.set i { r with places := [] })))
    rw [byL_set t.rows 0 i _ (fun q hq => by rw [hr] at hq; cases hq; rfl)]
    exact old h.ib (by simp)
  · rw [hL0, hsn]; exact old h.ir (by simp)
  · rw [hL1]; exact old h.ip (by simp)
  · by_cases c : j = i
    · subst c
      have : (t.rows.set j { r with places := [] })[j]? = some { r with places := [] } := by rw [List.getElem?_set_self hi]
      have hq : (t.rows.set j { r with places := [] })[j]? = some q := hq
      rw [this] at hq
      cases hq
      simp only [HIx.newP, if_pos, if_neg (show ¬ 3 + 2 * j = 2 + 2 * j by omega)]
      rw [List.getElem?_set_self (by simp; omega)]
      rfl
    · have hq : (t.rows.set i { r with places := [] })[j]? = some q := hq
      rw [List.getElem?_set_ne (Ne.symm c)] at hq
      have hj : j < t.n := (List.getElem?_eq_some_iff.1 hq).1
      have hkj := h.ik j q hq
      simp only [HIx.newP, if_neg (show ¬ 2 + 2 * j = 2 + 2 * i by omega), if_neg (show ¬ 3 + 2 * j = 2 + 2 * i by omega)]
      rw [List.getElem?_set_ne (fun e => c (h.kI j i hj hi e.symm)), List.getElem?_append_left (List.getElem?_eq_some_iff.1 hkj).1]
      exact hkj
  · by_cases c : j = i
    · subst c
      have : (t.rows.set j { r with places := [] })[j]? = some { r with places := [] } := by rw [List.getElem?_set_self hi]
      have hq : (t.rows.set j { r with places := [] })[j]? = some q := hq
      rw [this] at hq
      cases hq
      simp only [HIx.newP, if_pos]
      rw [List.getElem?_set_ne (by omega)]
      simp
    · have hq : (t.rows.set i { r with places := [] })[j]? = some q := hq
      rw [List.getElem?_set_ne (Ne.symm c)] at hq
      simp only [HIx.newP, if_neg (show ¬ 2 + 2 * j = 2 + 2 * i by omega)]
      exact old (h.il j q hq) (by simp)
  · simp only [HIx.newP, if_neg (show ¬ 3 + 2 * j = 2 + 2 * i by omega)]
    by_cases c : j = i
    · subst c
      have : (t.rows.set j { r with places := [] })[j]? = some { r with places := [] } := by rw [List.getElem?_set_self hi]
      have hq : (t.rows.set j { r with places := [] })[j]? = some q := hq
      rw [this] at hq
      cases hq
      exact old (h.im j r hr) (by simp)
    · have hq : (t.rows.set i { r with places := [] })[j]? = some q := hq
      rw [List.getElem?_set_ne (Ne.symm c)] at hq
      exact old (h.im j q hq) (by simp)
  · rw [hsn] at ha hb
    exact h.kI a b ha hb hab
  · rw [hsn] at ha hb
    simp only [HIx.newP] at hab
    by_cases ca : a = 2 + 2 * i
    · rw [if_pos ca] at hab
      by_cases cb : b = 2 + 2 * i
      · omega
      · rw [if_neg cb] at hab
        have := Llt b hb; omega
    · rw [if_neg ca] at hab
      by_cases cb : b = 2 + 2 * i
      · rw [if_pos cb] at hab
        have := Llt a ha; omega
      · rw [if_neg cb] at hab
        exact h.lI a b ha hb hab
theorem Step.newP (h : HallAt S x t) (hi : i < t.n) (o : O) : Step S ((S ++ [O.lst []]).set (x.K i) o) x (x.newP i S.length) t.n t.n where
  hh := rfl
  len := by simp
  old := fun j hj ho => by
    rw [List.getElem?_set_ne (fun e => ho (.inr (.inr (.inl ⟨i, hi, e.symm⟩)))), List.getElem?_append_left hj]
  new := fun j hj => by
    rcases hj with rfl | rfl | ⟨k, hk, rfl⟩ | ⟨a, ha, rfl⟩
    · exact .inl (.inl rfl)
    · exact .inl (.inr (.inl rfl))
    · exact .inl (.inr (.inr (.inl ⟨k, hk, rfl⟩)))
    · simp only [HIx.newP]
      by_cases c : a = 2 + 2 * i
      · rw [if_pos c]; exact .inr (Nat.le_refl _)
      · rw [if_neg c]; exact .inl (.inr (.inr (.inr ⟨a, ha, rfl⟩)))
end
end Py
set_option maxRecDepth 100000
set_option maxHeartbeats 1000000
namespace Py
open PySem PySem.Spec PyProof.Rows L2
/-! ### what is told of moved files -/
abbrev numsD (ks : List Nat) : D := .lst (ks.map fun (k : Nat) => .int (k : Int))
theorem comp_nums {vs : List Nat} {i n : Nat} {f : ME} {c : MT} {fr : Fr} {S : Sto} (hf : f fr S = .ok (.lst (rngD 0 n)) S) (hn : n ≤ 1000000) (hi : i < (wipeF fr vs).length) (q : Nat → Bool) (h : ∀ k, k < n → c ((wipeF fr vs).set i (some (.int k))) S = .ok (q k) S) :
    eComp vs (iSeq f) (gN i) c (eVar i) fr S = .ok (numsD ((List.range n).filter q)) S := by
  have hi' : iSeq f fr S = .ok ⟨rngD 0 n, none⟩ S := by simp [iSeq, hf, seqIts]
  rw [eComp_filter (φ := id) (p := fun d => match d with | .int k => q k.toNat | _ => false) hi' trivial (by rw [rngD_len]; exact hn) (fun d hd => ?_)]
  · have e : ∀ l : List Nat, ((l.map fun (k : Nat) => D.int (k : Int)).filter fun d => match d with | .int k => q k.toNat | _ => false) = (l.filter q).map fun (k : Nat) => D.int (k : Int) := by
      intro l
      induction l with
      | nil => rfl
      | cons a l ih =>
        simp only [List.map_cons, List.filter_cons, Int.toNat_natCast, ih]
        split <;> rfl
    rw [show rngD 0 n = (List.range n).map fun (k : Nat) => D.int (k : Int) from rng_tb n, List.map_id, e]
  · rw [show rngD 0 n = (List.range n).map fun (k : Nat) => D.int (k : Int) from rng_tb n] at hd
    obtain ⟨k, hk, rfl⟩ := List.mem_map.1 hd
    refine ⟨_, rfl, ?_, fun _ => ?_⟩
    · have := h k (List.mem_range.1 hk)
      simpa using this
    · simp [List.getElem?_set_self hi]
def movedK (as bs : List (List Str)) : List Nat := (List.range as.length).filter fun k => !decide (as.getD k [] = []) && (!decide (bs.getD k [] = []) && !decide (as.getD k [] = bs.getD k []))
def lostK (as bs : List (List Str)) : List Nat := (List.range as.length).filter fun k => !decide (as.getD k [] = []) && decide (bs.getD k [] = [])
def foundK (as bs : List (List Str)) : List Nat := (List.range as.length).filter fun k => decide (as.getD k [] = []) && !decide (bs.getD k [] = [])
def toldD (as bs : List (List Str)) : D := .tup [numsD ((List.range (bs.length - as.length)).map (as.length + ·)), numsD (movedK as bs), numsD (lostK as bs), numsD (foundK as bs)]
abbrev placesL (t : HSt) : List (List Str) := t.rows.map Row.places
abbrev befD (as : List (List Str)) : D := .lst (as.map fun zs => .lst (strsD zs))
theorem eq_nil {zs : List Str} (hz : okS zs = true) (neg : Bool) (S : Sto) : eqD neg (.lst (strsD zs)) (.lst []) S = .ok (.bl (if neg then !decide (zs = []) else decide (zs = []))) S := eq_strs (ws := []) hz rfl neg S
theorem lstR_eq {f : MR} {fr : Fr} {S : Sto} {a b : Nat} (h : f fr S = .ok ((a : Int), (b : Int)) S) (ha : a ≤ 1000000) (hb : b ≤ 1000000) : eLstR f fr S = .ok (.lst (rngD a (b - a))) S := by
  have hr : rngOk (a : Int) (b : Int) := by unfold rngOk; omega
  simp only [eLstR, h, Res.bind_ok, if_pos hr]
  rw [show ((b : Int) - (a : Int)).toNat = b - a by omega]
theorem rngD_shift (a n : Nat) : rngD (a : Int) n = ((List.range n).map (a + ·)).map fun (k : Nat) => D.int (k : Int) := by
  unfold rngD
  rw [List.map_map]
  apply List.map_congr_left
  intro k _
  simp
section
variable {S : Sto} {x : HIx} {t : HSt}
theorem G_told (h : HallAt S x t) {as : List (List Str)} (hl : as.length ≤ t.n) (hn : t.n ≤ 1000) (ha : ∀ zs ∈ as, okS zs = true) (hb : ∀ zs ∈ placesL t, okS zs = true) : F_Hall_told_of [.ref x.h, befD as] S = .ok (toldD as (placesL t)) S := by
  have e : F_Hall_told_of [.ref x.h, befD as] S = bodyRes (b_Hall_told_of [some (.ref x.h), some (befD as), none, none, none, none, none, none, none, none] S) := rfl
  rw [e]
  unfold b_Hall_told_of
  have hfr : iSeq (e1 (fldD "rows") (eVar 0)) [some (.ref x.h), some (befD as), none, none, none, none, none, none, none, none] S = .ok ⟨tb t.n fun i => .ref (x.K i), some (x.L 0, tb t.n fun i => .ref (x.K i))⟩ S := by
    simp [iSeq, h.rows, seqIts, h.ir]
  rw [sq_set (S1 := S) (d := .lst (tb t.n fun j => .ref (x.L (2 + 2 * j)))) (by
    have := eComp_st (vs := [8]) (g := gN 8) (c := tTrue) (e := e2 dgetS (eVar 8) (eC (.str "places"))) hfr (fun j => .ref (x.L (2 + 2 * j))) (fun _ => S) rfl (by simp; unfold sz; omega) (fun j d hj => ⟨h.ir, _, rfl, rfl, ?_⟩) h.ir
    · rw [this]; simp [tb]
    · simp only [tb_get?] at hj
      split at hj
      · rename_i hjn
        cases hj
        simp [wipeF, r_places S (h.ik j _ (List.getElem?_eq_getElem hjn))]
      · cases hj)]
  simp only [List.set_cons_succ, List.set_cons_zero]
  have lb : lenD [befD as] S = .ok (.int as.length) S := by simp [lenD_lst]
  have la : lenD [.lst (tb t.n fun j => D.ref (x.L (2 + 2 * j)))] S = .ok (.int t.n) S := by simp [lenD_lst]
  rw [sq_set (S1 := S) (d := .lst (rngD 0 as.length)) (by
    have := lstR_eq (f := r1 (eCall lenD (aCons (eVar 1) aNil))) (fr := [some (.ref x.h), some (befD as), some (.lst (tb t.n fun j => .ref (x.L (2 + 2 * j)))), none, none, none, none, none, none, none]) (S := S) (a := 0) (b := as.length) (by simp [r1, lb]) (by omega) (by omega)
    simpa using this)]
  simp only [List.set_cons_succ, List.set_cons_zero]
  rw [sq_set (S1 := S) (d := numsD ((List.range (t.n - as.length)).map (as.length + ·))) (by
    have := lstR_eq (f := r2 (eCall lenD (aCons (eVar 1) aNil)) (eCall lenD (aCons (eVar 2) aNil))) (fr := [some (.ref x.h), some (befD as), some (.lst (tb t.n fun j => .ref (x.L (2 + 2 * j)))), some (.lst (rngD 0 as.length)), none, none, none, none, none, none]) (S := S) (a := as.length) (b := t.n) (by simp [r2, lb, la]) (by omega) (by omega)
    rw [this, rngD_shift])]
  simp only [List.set_cons_succ, List.set_cons_zero]
  have bx : ∀ k, k < as.length → ixD (befD as) (.int k) S = .ok (.lst (strsD (as.getD k []))) S := fun k hk => by
    rw [ix_lst (j := k) rfl (by simpa using hk)]
    simp [List.getD, hk]
  have ax : ∀ k, k < as.length → ixD (.lst (tb t.n fun j => D.ref (x.L (2 + 2 * j)))) (.int k) S = .ok (.ref (x.L (2 + 2 * k))) S := fun k hk => by
    rw [ix_lst (j := k) rfl (by simp; omega), tb_get]
  have pk : ∀ k, k < as.length → S[x.L (2 + 2 * k)]? = some (.lst (strsD ((placesL t).getD k []))) := fun k hk => by
    have hkn : k < t.rows.length := by have : k < t.n := by omega
                                       exact this
    have := h.il k t.rows[k] (List.getElem?_eq_getElem hkn)
    rw [this]
    simp [placesL, List.getD, hkn]
  have oka : ∀ k, k < as.length → okS (as.getD k []) = true := fun k hk => ha _ (by simp [List.getD, hk])
  have okb : ∀ k, k < as.length → okS ((placesL t).getD k []) = true := fun k hk => by
    have hkn : k < t.rows.length := by have : k < t.n := by omega
                                       exact this
    refine hb _ ?_
    simp only [placesL, List.getD, List.getElem?_map, List.getElem?_eq_getElem hkn, Option.map_some, Option.getD_some]
    exact List.mem_map_of_mem (List.getElem_mem hkn)
  have e1 : ∀ k, k < as.length → ∀ neg, eqD neg (.lst (strsD (as.getD k []))) (.lst []) S = .ok (.bl (if neg then !decide (as.getD k [] = []) else decide (as.getD k [] = []))) S := fun k hk neg => eq_nil (oka k hk) neg S
  have e2' : ∀ k, k < as.length → ∀ neg, eqD neg (.ref (x.L (2 + 2 * k))) (.lst []) S = .ok (.bl (if neg then !decide ((placesL t).getD k [] = []) else decide ((placesL t).getD k [] = []))) S := fun k hk neg => by
    rw [eqD_refL (pk k hk)]; exact eq_nil (okb k hk) neg S
  have e3 : ∀ k, k < as.length → eqD true (.lst (strsD (as.getD k []))) (.ref (x.L (2 + 2 * k))) S = .ok (.bl (!decide (as.getD k [] = (placesL t).getD k []))) S := fun k hk => by
    rw [eqD_refR (pk k hk)]; exact eq_strs (oka k hk) (okb k hk) true S
  rw [sq_set (S1 := S) (d := numsD (movedK as (placesL t))) (comp_nums (by simp) (by omega) (by simp [wipeF]) _ fun k hk => by
    simp only [wipeF, List.set_cons_succ, List.set_cons_zero, ap_tand, ap_val, ap_2, ap_var, ap_lst, ap_nil, List.getElem?_cons_succ, List.getElem?_cons_zero, Res.bind_ok, bx k hk, ax k hk, List.length_nil, Nat.zero_le, if_true, e1 k hk, e2' k hk, e3 k hk]
    cases decide (as.getD k [] = []) <;> cases decide ((placesL t).getD k [] = []) <;> simp)]
  simp only [List.set_cons_succ, List.set_cons_zero]
  rw [sq_set (S1 := S) (d := numsD (lostK as (placesL t))) (comp_nums (by simp) (by omega) (by simp [wipeF]) _ fun k hk => by
    simp only [wipeF, List.set_cons_succ, List.set_cons_zero, ap_tand, ap_val, ap_2, ap_var, ap_lst, ap_nil, List.getElem?_cons_succ, List.getElem?_cons_zero, Res.bind_ok, bx k hk, ax k hk, List.length_nil, Nat.zero_le, if_true, e1 k hk, e2' k hk, e3 k hk]
    cases decide (as.getD k [] = []) <;> simp)]
  simp only [List.set_cons_succ, List.set_cons_zero]
  rw [sq_set (S1 := S) (d := numsD (foundK as (placesL t))) (comp_nums (by simp) (by omega) (by simp [wipeF]) _ fun k hk => by
    simp only [wipeF, List.set_cons_succ, List.set_cons_zero, ap_tand, ap_val, ap_2, ap_var, ap_lst, ap_nil, List.getElem?_cons_succ, List.getElem?_cons_zero, Res.bind_ok, bx k hk, ax k hk, List.length_nil, Nat.zero_le, if_true, e1 k hk, e2' k hk, e3 k hk]
    cases decide (as.getD k [] = []) <;> simp)]
  simp only [List.set_cons_succ, List.set_cons_zero]
  rw [s_ret (S1 := S) (d := toldD as (placesL t)) (by simp [toldD, sz])]
  rfl
end
end Py
set_option maxRecDepth 100000
set_option maxHeartbeats 1000000
namespace Py
open PySem PySem.Spec PyProof.Rows L2
/-! ### take_in -/
abbrev clr (r : Row) : Row := { r with places := [] }
def addFile (m : Int) (rs : List Row) (f : Str × Pic) : List Row := match idxP rs f.2 with
  | some i => (match rs[i]? with | some r => rs.set i { r with places := r.places ++ [f.1] } | none => rs)
  | none => rs ++ [⟨f.2, [f.1], [], [], 0, m⟩]
def takeRows (m : Int) (rs : List Row) (fs : List (Str × Pic)) : List Row := fs.foldl (addFile m) (rs.map clr)
def takeSt (t : HSt) (m : Int) (fs : List (Str × Pic)) : HSt := ⟨takeRows m t.rows fs, t.past⟩
theorem sq_nx2 {f g k : MS} {fr fr1 : Fr} {S S1 : Sto} (h : f fr S = .nx fr1 S1) : sSeq (sSeq f g) k fr S = sSeq g k fr1 S1 := by simp only [sSeq, h]
theorem sset_nx {i : Nat} {e : ME} {fr : Fr} {S S1 : Sto} {d : D} (h : e fr S = .ok d S1) : sSet i e fr S = .nx (fr.set i (some d)) S1 := by simp only [sSet, h, Res.then_ok]
theorem loopF_consG {it : Its} {g : MG} {body : MS} {d : D} {ds : List D} {fr fr1 fr2 : Fr} {S S2 : Sto} (ho : okG it S) (h1 : g d fr = some fr1) (h2 : body fr1 S = .nx fr2 S2) : loopF it g body (d :: ds) fr S = loopF it g body ds fr2 S2 := by
  simp only [loopF, if_pos ho, h1, h2]
theorem loopF_nilG {it : Its} {g : MG} {body : MS} {fr : Fr} {S : Sto} (ho : okG it S) : loopF it g body [] fr S = .nx fr S := by
  simp only [loopF, if_pos ho]
theorem setA_places {pl mk q : Nat} {r : Row} : O.dS (setA [(.inr "first", gr r.pic), (.inr "places", .ref pl), (.inr "deeds", deedsD r.deeds), (.inr "marks", .ref mk), (.inr "stars", .int r.stars), (.inr "moment", .int r.moment)] (.inr "places" : Key) (.ref q)) = rowO q mk r := rfl
noncomputable abbrev lp_clr : MS := sDputS (eNewL aNil) (eVar 5) (eC (.str "places"))
def clrFrom (j : Nat) (rs : List Row) : List Row := rs.take j ++ (rs.drop j).map clr
theorem clrFrom_step {j : Nat} {rs : List Row} {r : Row} (h : rs[j]? = some r) : clrFrom (j + 1) (rs.set j (clr r)) = clrFrom j rs := by
  have hl := (List.getElem?_eq_some_iff.1 h).1
  have hg : rs[j] = r := (List.getElem?_eq_some_iff.1 h).2
  unfold clrFrom
  rw [List.drop_set_of_lt (by omega), List.take_succ_eq_append_getElem (by simpa using hl), List.getElem_set_self, List.take_set_of_le (by omega), List.append_assoc]
  congr 1
  rw [List.drop_eq_getElem_cons hl, List.map_cons, hg]
  rfl
theorem loop_clr {n l0 : Nat} {K0 : Nat → Nat} (hn : n ≤ 1000) (a0 a1 a2 a3 a4 a6 a7 : Option D) : ∀ (k j : Nat), j + k = n → ∀ (S : Sto) (x : HIx) (t : HSt) (o5 : Option D), t.n = n → HallAt S x t → x.L 0 = l0 → x.K = K0 →
    ∃ S' x' o, loopF ⟨tb n fun i => .ref (K0 i), some (l0, tb n fun i => .ref (K0 i))⟩ (gN 5) lp_clr ((tb n fun i => D.ref (K0 i)).drop j) [a0, a1, a2, a3, a4, o5, a6, a7] S = .nx [a0, a1, a2, a3, a4, o, a6, a7] S' ∧ HallAt S' x' ⟨clrFrom j t.rows, t.past⟩ ∧ Step S S' x x' n n ∧ S'.length ≤ S.length + k
  | 0, j, hj, S, x, t, o5, ht, h, hl, hk => by
    have hjn : j = n := by omega
    refine ⟨S, x, o5, ?_, ?_, .refl _ _ _, by omega⟩
    · rw [List.drop_of_length_le (by simp; omega)]
      rw [loopF_nilG]
      show S[l0]? = _
      rw [← hl, h.ir, ht, hk]
    · have : clrFrom j t.rows = t.rows := by unfold clrFrom; rw [List.take_of_length_le (by show t.n ≤ j; omega), List.drop_of_length_le (by show t.n ≤ j; omega)]; simp
      rw [this]; exact h
  | k + 1, j, hj, S, x, t, o5, ht, h, hl, hk => by
    have hjn : j < t.rows.length := by have : j < t.n := by omega
                                       exact this
    obtain ⟨r, hr⟩ : ∃ r, t.rows[j]? = some r := ⟨_, List.getElem?_eq_getElem hjn⟩
    have hkj := h.ik j r hr
    have hkl := (List.getElem?_eq_some_iff.1 hkj).1
    have h1 := h.newP hr
    obtain ⟨S', x', o, e, h2, st, hlen⟩ := loop_clr (l0 := l0) (K0 := K0) hn a0 a1 a2 a3 a4 a6 a7 k (j + 1) (by omega) _ (x.newP j S.length) (t.setR j (clr r)) (some (.ref (K0 j))) (by simp only [HSt.setR, HSt.n, List.length_set]; exact ht) h1 (by simp only [HIx.newP]; rw [if_neg (by omega)]; exact hl) hk
    refine ⟨S', x', o, ?_, ?_, ?_, ?_⟩
    · rw [List.drop_eq_getElem_cons (by simp; omega), tb_get, loopF_consG (fr1 := [a0, a1, a2, a3, a4, some (.ref (K0 j)), a6, a7]) (fr2 := [a0, a1, a2, a3, a4, some (.ref (K0 j)), a6, a7]) (S2 := (S ++ [O.lst []]).set (x.K j) (rowO S.length (x.L (3 + 2 * j)) r)) _ rfl]
      · exact e
      · have hx : (S ++ [O.lst []])[K0 j]? = some (rowO (x.L (2 + 2 * j)) (x.L (3 + 2 * j)) r) := by rw [← hk, List.getElem?_append_left hkl]; exact hkj
        unfold lp_clr
        rw [dput_eq (S1 := S ++ [O.lst []]) (S2 := S ++ [O.lst []]) (S3 := S ++ [O.lst []]) (d := .ref S.length) (n := K0 j) (k := "places") (by simp [sz]) (by simp) (by simp) hx (by simp), setA_places, hk]
      · show S[l0]? = _
        rw [← hl, h.ir, ht, hk]
    · have h2' : HallAt S' x' ⟨clrFrom (j + 1) (t.rows.set j (clr r)), t.past⟩ := h2
      rw [clrFrom_step hr] at h2'
      exact h2'
    · have := (Step.newP h (o := rowO S.length (x.L (3 + 2 * j)) r) (by omega : j < t.n))
      rw [ht] at this
      exact this.trans st
    · simp at hlen
      omega
noncomputable abbrev lp_add : MS := (sSeq (sIf (tVal (e2 (inPd true) (eVar 7) (e1 (fldD "by") (eVar 0))))
    (sSeq (sDputP (eCall lenD (aCons (e1 (fldD "rows") (eVar 0)) aNil)) (e1 (fldD "by") (eVar 0)) (eVar 7))
    (sSeq (sSet 5 (eDictS [.inr "first", .inr "places", .inr "deeds", .inr "marks", .inr "stars", .inr "moment"] (aCons (eVar 7) (aCons (eNewL aNil) (aCons (eTup aNil) (aCons (eNewL aNil) (aCons (eC (.int 0)) (aCons (eVar 1) aNil))))))))
    (sExpr (eMethL appendD (e1 (fldD "rows") (eVar 0)) (aCons (eVar 5) aNil)))))
    sNil)
    (sExpr (eMethL appendD (e2 dgetS (e2 ixD (e1 (fldD "rows") (eVar 0)) (e2 dgetP (e1 (fldD "by") (eVar 0)) (eVar 7))) (eC (.str "places"))) (aCons (eVar 6) aNil))))
section
variable {S : Sto} {x : HIx} {t : HSt}
theorem HallAt.inBy (h : HallAt S x t) (p : Pic) (neg : Bool) : inPd neg (gr p) (.ref x.b) S = .ok (.bl (if neg then !(idxP t.rows p).isSome else (idxP t.rows p).isSome)) S := by
  have hd : dPof S (.ref x.b) = some (byL 0 t.rows) := by simp only [dPof, h.ib]
  simp only [inPd, pkey_gr, hd, getA_byL, Option.isSome_map]
theorem HallAt.getBy (h : HallAt S x t) {p : Pic} {i : Nat} (hi : idxP t.rows p = some i) : dgetP (.ref x.b) (gr p) S = .ok (.int i) S := by
  have hd : dPof S (.ref x.b) = some (byL 0 t.rows) := by simp only [dPof, h.ib]
  simp only [dgetP, pkey_gr, hd, getA_byL, hi, Option.map_some, Nat.zero_add]
/-- the last line of a turn -/
theorem add_place (h : HallAt S x t) {p : Pic} {i : Nat} {r : Row} (hi : idxP t.rows p = some i) (hr : t.rows[i]? = some r) (hl : r.places.length < 1000) (z : Str) (a1 a2 a3 a4 a5 : Option D) :
    ∃ S', sExpr (eMethL appendD (e2 dgetS (e2 ixD (e1 (fldD "rows") (eVar 0)) (e2 dgetP (e1 (fldD "by") (eVar 0)) (eVar 7))) (eC (.str "places"))) (aCons (eVar 6) aNil)) [some (.ref x.h), a1, a2, a3, a4, a5, some (.str z), some (gr p)] S = .nx [some (.ref x.h), a1, a2, a3, a4, a5, some (.str z), some (gr p)] S' ∧
      HallAt S' x ⟨t.rows.set i { r with places := r.places ++ [z] }, t.past⟩ ∧ Step S S' x x t.n t.n ∧ S'.length = S.length := by
  have hin : i < t.n := (List.getElem?_eq_some_iff.1 hr).1
  have hk := h.ik i r hr
  have hp := h.il i r hr
  refine ⟨S.set (x.L (2 + 2 * i)) (.lst (strsD (r.places ++ [z]))), ?_, ?_, Step.set _ (.inr (.inr (.inr ⟨2 + 2 * i, by omega, rfl⟩))), by simp⟩
  · have hls : lstOf S (.ref (x.L (2 + 2 * i))) = some (strsD r.places) := by simp [lstOf, hp]
    have hap : appendD (.ref (x.L (2 + 2 * i))) [.str z] S = .ok .non (S.set (x.L (2 + 2 * i)) (.lst (strsD (r.places ++ [z])))) := by
      have : (strsD r.places).length < sz := by simp; unfold sz; omega
      simp only [appendD, hp, if_pos this, strsD, List.map_append, List.map_cons, List.map_nil]
    simp only [sExpr, eMethL, ap_2, ap_1, ap_var, ap_c, List.getElem?_cons_succ, List.getElem?_cons_zero, Res.bind_ok, h.rows, h.by_, h.getBy hi, h.ixR hin, r_places S hk, hls, ap_cons, ap_nil, hap, Res.then_ok]
  · refine h.setLst (a := 2 + 2 * i) (by omega) (by omega) (r.places ++ [z]) _ rfl (by simp [HSt.n]) fun j q hq => ?_
    have hq : (t.rows.set i { r with places := r.places ++ [z] })[j]? = some q := hq
    by_cases c : j = i
    · subst c
      rw [List.getElem?_set_self hin] at hq
      cases hq
      exact ⟨r, hr, rfl, rfl, rfl, rfl, by rw [if_pos rfl], by rw [if_neg (by omega)]⟩
    · rw [List.getElem?_set_ne (Ne.symm c)] at hq
      exact ⟨q, hq, rfl, rfl, rfl, rfl, by rw [if_neg (by omega)], by rw [if_neg (by omega)]⟩
theorem add_step (h : HallAt S x t) (f : Str × Pic) (m : Int) (hn : t.n < 1000) (hl : ∀ r ∈ t.rows, r.places.length < 1000) (a2 a3 a4 a5 : Option D) :
    ∃ S' x' o5, lp_add [some (.ref x.h), some (.int m), a2, a3, a4, a5, some (.str f.1), some (gr f.2)] S = .nx [some (.ref x.h), some (.int m), a2, a3, a4, o5, some (.str f.1), some (gr f.2)] S' ∧
      HallAt S' x' ⟨addFile m t.rows f, t.past⟩ ∧ Step S S' x x' t.n (addFile m t.rows f).length ∧ S'.length ≤ S.length + 3 := by
  unfold lp_add
  cases hi : idxP t.rows f.2 with
  | some i =>
    obtain ⟨r, hr, _⟩ := idxP_lt hi
    obtain ⟨S', e, h', st, hln⟩ := add_place h hi hr (hl r (List.mem_of_getElem? hr)) f.1 (some (.int m)) a2 a3 a4 a5
    refine ⟨S', x, a5, ?_, ?_, ?_, by omega⟩
    · rw [sq_f (S1 := S) (by simp [h.by_, h.inBy, hi])]
      exact e
    · simp only [addFile, hi, hr]; exact h'
    · simp only [addFile, hi, hr, List.length_set]; exact st
  | none =>
    -- a new one
    let q : Row := ⟨f.2, [], [], [], 0, m⟩
    have hA := h.addRow q rfl rfl
    have sA := Step.addRow h q
    have hi2 : idxP (t.rows ++ [q]) f.2 = some t.n := by
      rw [idxP_app, hi]
      simp only
      rw [if_pos rfl]
    have hr2 : (t.rows ++ [q])[t.n]? = some q := by simp [HSt.n]
    obtain ⟨S', e, h', st, hln⟩ := add_place (t := ⟨t.rows ++ [q], t.past⟩) hA hi2 hr2 (by simp [q]) f.1 (some (.int m)) a2 a3 a4 (some (.ref S.length))
    refine ⟨S', x.addR t.n S.length, some (.ref S.length), ?_, ?_, ?_, by simp at hln; omega⟩
    · rw [sq_t (S1 := S) (by simp [h.by_, h.inBy, hi])]
      have hset : setA (byL 0 t.rows) (gkey f.2) (.int t.n) = byL 0 t.rows ++ [(gkey f.2, .int t.n)] := by
        unfold setA
        rw [any_getA, getA_byL, hi]
        simp
      have hbl : ∀ (rs : List Row) (k : Nat), (byL k rs).length = rs.length := by
        intro rs
        induction rs with
        | nil => intro k; rfl
        | cons r rs ih => intro k; simp [byL, ih]
      have hput : sDputP (eCall lenD (aCons (e1 (fldD "rows") (eVar 0)) aNil)) (e1 (fldD "by") (eVar 0)) (eVar 7) [some (.ref x.h), some (.int m), a2, a3, a4, a5, some (.str f.1), some (gr f.2)] S = .nx [some (.ref x.h), some (.int m), a2, a3, a4, a5, some (.str f.1), some (gr f.2)] (S.set x.b (.dP (byL 0 t.rows ++ [(gkey f.2, .int t.n)]))) := by
        have hd : dPof S (.ref x.b) = some (byL 0 t.rows) := by simp only [dPof, h.ib]
        have hsz : (byL 0 t.rows).length < sz := by rw [hbl]; have : t.rows.length < 1000 := hn; unfold sz; omega
        simp only [sDputP, ap_call, ap_cons, ap_nil, ap_1, ap_var, List.getElem?_cons_succ, List.getElem?_cons_zero, Res.bind_ok, Res.then_ok, h.rows, h.by_, h.lenR, hd, pkey_gr, if_pos hsz, hset]
      rw [sq_nx2 hput]
      have hdict : eDictS [.inr "first", .inr "places", .inr "deeds", .inr "marks", .inr "stars", .inr "moment"] (aCons (eVar 7) (aCons (eNewL aNil) (aCons (eTup aNil) (aCons (eNewL aNil) (aCons (eC (.int 0)) (aCons (eVar 1) aNil)))))) [some (.ref x.h), some (.int m), a2, a3, a4, a5, some (.str f.1), some (gr f.2)] (S.set x.b (.dP (byL 0 t.rows ++ [(gkey f.2, .int t.n)]))) =
          .ok (.ref S.length) ((S.set x.b (.dP (byL 0 t.rows ++ [(gkey f.2, .int t.n)]))) ++ [rowO (S.length + 1) (S.length + 2) q, .lst [], .lst []]) := by
        generalize hS0 : S.set x.b (.dP (byL 0 t.rows ++ [(gkey f.2, .int t.n)])) = S0
        have hl0 : S0.length = S.length := by rw [← hS0]; simp
        rw [← hl0]
        simp only [eDictS, ap_cons, ap_nil, ap_var, ap_c, ap_newl, ap_tup, List.getElem?_cons_succ, List.getElem?_cons_zero, Res.bind_ok, List.length_nil, Nat.zero_le, if_true]
        simp [List.getElem?_append_right, rowO, q, deedsD, List.set_append_right]
      rw [sq_nx2 (sset_nx hdict)]
      simp only [List.set_cons_succ, List.set_cons_zero]
      have lt0 : x.L 0 < S.length := (List.getElem?_eq_some_iff.1 h.ir).1
      generalize hS1 : (S.set x.b (.dP (byL 0 t.rows ++ [(gkey f.2, .int t.n)]))) ++ [rowO (S.length + 1) (S.length + 2) q, .lst [], .lst []] = S1
      have g0 : S1[x.L 0]? = some (.lst (tb t.n fun i => .ref (x.K i))) := by
        rw [← hS1, List.getElem?_append_left (by simpa using lt0), List.getElem?_set_ne (ne_kind h.ib h.ir (by simp))]; exact h.ir
      have gh : S1[x.h]? = some (hallO x) := by
        rw [← hS1, List.getElem?_append_left (by have := (List.getElem?_eq_some_iff.1 h.ih).1; simpa using this), List.getElem?_set_ne (ne_kind h.ib h.ih (by simp))]; exact h.ih
      have hf0 : fldD "rows" (.ref x.h) S1 = .ok (.ref (x.L 0)) S1 := by simp only [fldD, gh]; rfl
      have hls : lstOf S1 (.ref (x.L 0)) = some (tb t.n fun i => .ref (x.K i)) := by simp only [lstOf, g0]
      have hap : appendD (.ref (x.L 0)) [.ref S.length] S1 = .ok .non (S1.set (x.L 0) (.lst ((tb t.n fun i => .ref (x.K i)) ++ [.ref S.length]))) := by
        have : (tb t.n fun i => D.ref (x.K i)).length < sz := by simp; unfold sz; omega
        simp only [appendD, g0, if_pos this]
      rw [sq_ex (S1 := S1.set (x.L 0) (.lst ((tb t.n fun i => .ref (x.K i)) ++ [.ref S.length]))) (d := .non) (by
        simp only [eMethL, ap_1, ap_var, List.getElem?_cons_succ, List.getElem?_cons_zero, Res.bind_ok, hf0, hls, ap_cons, ap_nil, hap])]
      have e' : sExpr (eMethL appendD (e2 dgetS (e2 ixD (e1 (fldD "rows") (eVar 0)) (e2 dgetP (e1 (fldD "by") (eVar 0)) (eVar 7))) (eC (.str "places"))) (aCons (eVar 6) aNil)) [some (.ref x.h), some (.int m), a2, a3, a4, some (.ref S.length), some (.str f.1), some (gr f.2)] (S1.set (x.L 0) (.lst ((tb t.n fun i => .ref (x.K i)) ++ [.ref S.length]))) = .nx [some (.ref x.h), some (.int m), a2, a3, a4, some (.ref S.length), some (.str f.1), some (gr f.2)] S' := by
        rw [← hS1]; exact e
      exact e'
    · have hadd : addFile m t.rows f = (t.rows ++ [q]).set t.n { q with places := q.places ++ [f.1] } := by
        simp only [addFile, hi, HSt.n]
        rw [List.set_append_right _ _ (by omega)]
        simp [q]
      rw [hadd]; exact h'
    · have hadd : (addFile m t.rows f).length = t.n + 1 := by simp only [addFile, hi]; simp [HSt.n]
      rw [hadd]
      have hl2 : (⟨t.rows ++ [q], t.past⟩ : HSt).n = t.n + 1 := by simp [HSt.n]
      rw [hl2] at st
      exact sA.trans st
theorem addFile_len {m : Int} {rs : List Row} {f : Str × Pic} : (addFile m rs f).length ≤ rs.length + 1 := by
  unfold addFile
  split
  · split <;> simp
  · simp
theorem addFile_pl {m : Int} {rs : List Row} {f : Str × Pic} {c : Nat} (h : ∀ r ∈ rs, r.places.length ≤ c) : ∀ r ∈ addFile m rs f, r.places.length ≤ c + 1 := by
  intro r hr
  unfold addFile at hr
  split at hr
  · split at hr
    · rename_i q hq
      rcases List.mem_or_eq_of_mem_set hr with hr | rfl
      · have := h r hr; omega
      · have := h q (List.mem_of_getElem? hq); simp; omega
    · have := h r hr; omega
  · rcases List.mem_append.1 hr with hr | hr
    · have := h r hr; omega
    · rw [List.mem_singleton] at hr; subst hr; simp
theorem loop_add {it : Its} (hi : it.guard = none) (m : Int) (a2 a3 a4 : Option D) : ∀ (fs : List (Str × Pic)) (S : Sto) (x : HIx) (t : HSt) (c : Nat) (a5 a6 a7 : Option D), HallAt S x t → t.n + fs.length < 1000 → c + fs.length < 1000 → (∀ r ∈ t.rows, r.places.length ≤ c) →
    ∃ S' x' b5 b6 b7, loopF it (gT 2 (gsC (gN 6) (gsC (gN 7) gs0))) lp_add (fs.map fileD) [some (.ref x.h), some (.int m), a2, a3, a4, a5, a6, a7] S = .nx [some (.ref x.h), some (.int m), a2, a3, a4, b5, b6, b7] S' ∧
      HallAt S' x' ⟨fs.foldl (addFile m) t.rows, t.past⟩ ∧ Step S S' x x' t.n (fs.foldl (addFile m) t.rows).length ∧ S'.length ≤ S.length + 3 * fs.length
  | [], S, x, t, c, a5, a6, a7, h, _, _, _ => ⟨S, x, a5, a6, a7, by rw [List.map_nil, loopF_nil hi], h, .refl _ _ _, by simp⟩
  | f :: fs, S, x, t, c, a5, a6, a7, h, h1, h2, h3 => by
    simp only [List.length_cons] at h1 h2
    obtain ⟨S1, x1, o5, e1', hA, sA, l1⟩ := add_step h f m (by omega) (fun r hr => by have := h3 r hr; omega) a2 a3 a4 a5
    have hx : x1.h = x.h := sA.hh
    have hln := addFile_len (m := m) (rs := t.rows) (f := f)
    obtain ⟨S2, x2, b5, b6, b7, e2', hB, sB, l2⟩ := loop_add hi m a2 a3 a4 fs S1 x1 ⟨addFile m t.rows f, t.past⟩ (c + 1) o5 (some (.str f.1)) (some (gr f.2)) hA (by show (addFile m t.rows f).length + _ < _; have : t.rows.length = t.n := rfl; omega) (by omega) (addFile_pl h3)
    refine ⟨S2, x2, b5, b6, b7, ?_, hB, sA.trans sB, by simp only [List.length_cons]; omega⟩
    rw [List.map_cons, loopF_cons hi (fr1 := [some (.ref x.h), some (.int m), a2, a3, a4, a5, some (.str f.1), some (gr f.2)]) rfl e1', ← hx]
    exact e2'
end
end Py
set_option maxRecDepth 100000
set_option maxHeartbeats 1000000
namespace Py
open PySem PySem.Spec PyProof.Rows L2
abbrev newsF (rs : List Row) (fs : List (Str × Pic)) : List (Str × Pic) := fs.filter fun f => (idxP rs f.2).isNone
def cntN (rs : List Row) (fs : List (Str × Pic)) : Nat := (mergeA [] ((newsF rs fs).map fun f => (gkey f.2, .bl true))).length
theorem setA_len {kvs : List (NestedKey × D)} {q : NestedKey} {d : D} : (setA kvs q d).length = if (getA kvs q).isSome then kvs.length else kvs.length + 1 := by
  unfold setA
  rw [any_getA]
  split <;> simp
theorem mergeA_le : ∀ (more acc : List (NestedKey × D)), (mergeA acc more).length ≤ acc.length + more.length
  | [], acc => by simp [mergeA]
  | p :: more, acc => by
    have h1 := mergeA_le more (setA acc p.1 p.2)
    have h2 := setA_len (kvs := acc) (q := p.1) (d := p.2)
    have : mergeA acc (p :: more) = mergeA (setA acc p.1 p.2) more := rfl
    rw [this]
    simp only [List.length_cons]
    split at h2 <;> omega
theorem cntN_le (rs : List Row) (fs : List (Str × Pic)) : cntN rs fs ≤ fs.length := by
  unfold cntN
  refine Nat.le_trans (mergeA_le _ _) ?_
  simp
  exact List.length_filter_le _ _
theorem getA_setA {kvs : List (NestedKey × D)} {q k : NestedKey} {d : D} : (getA (setA kvs q d) k).isSome = (decide (k = q) || (getA kvs k).isSome) := by
  unfold setA
  split
  · rename_i h
    rw [any_getA] at h
    have e : ∀ l : List (NestedKey × D), (getA (l.map fun kv => if kv.1 = q then (kv.1, d) else kv) k).isSome = (getA l k).isSome := by
      intro l
      induction l with
      | nil => rfl
      | cons p l ih =>
        obtain ⟨p1, p2⟩ := p
        rw [← any_getA, ← any_getA] at ih ⊢
        simp only [List.map_cons, List.any_cons, ih]
        by_cases c : p1 = q
        · simp [c]
        · simp [c]
    rw [e]
    by_cases c : k = q
    · subst c; simp [h]
    · simp [c]
  · rw [← any_getA, ← any_getA, List.any_append]
    by_cases c : k = q
    · subst c; simp
    · have : ¬ q = k := fun e => c e.symm
      simp [c, this]
theorem idxP_isSome {p : Pic} : ∀ {rs : List Row}, (idxP rs p).isSome = rs.any fun r => decide (gkey r.pic = gkey p)
  | [] => rfl
  | r :: rs => by
    simp only [idxP, List.any_cons]
    by_cases c : gkey r.pic = gkey p
    · simp [c]
    · simp [c, idxP_isSome (rs := rs)]
theorem addFile_has {m : Int} {rs : List Row} {f : Str × Pic} {p : Pic} : (idxP (addFile m rs f) p).isSome = ((idxP rs p).isSome || decide (gkey f.2 = gkey p)) := by
  unfold addFile
  cases hi : idxP rs f.2 with
  | some i =>
    obtain ⟨r, hr, hk⟩ := idxP_lt hi
    simp only [hr]
    rw [idxP_set (fun q hq => by rw [hr] at hq; cases hq; rfl)]
    by_cases c : gkey f.2 = gkey p
    · have : (idxP rs p).isSome = true := by
        rw [idxP_isSome, List.any_eq_true]
        exact ⟨r, List.mem_of_getElem? hr, by rw [hk, c]; simp⟩
      simp [this]
    · simp [c]
  | none =>
    simp only
    rw [idxP_isSome, idxP_isSome, List.any_append]
    simp
/-- how many there are behind the files -/
theorem fold_len (m : Int) (rs0 : List Row) : ∀ (fs : List (Str × Pic)) (rs : List Row) (acc : List (NestedKey × D)), (∀ p : Pic, (idxP rs p).isSome = ((idxP rs0 p).isSome || (getA acc (gkey p)).isSome)) →
    (fs.foldl (addFile m) rs).length + acc.length = rs.length + (mergeA acc ((newsF rs0 fs).map fun f => (gkey f.2, .bl true))).length
  | [], rs, acc, h => by simp [mergeA]
  | f :: fs, rs, acc, h => by
    have hf := h f.2
    simp only [List.foldl_cons]
    cases c0 : idxP rs0 f.2 with
    | some i =>
      have hn : newsF rs0 (f :: fs) = newsF rs0 fs := by simp [newsF, c0]
      rw [hn]
      rw [c0] at hf
      simp only [Option.isSome_some, Bool.true_or] at hf
      have hl : (addFile m rs f).length = rs.length := by
        obtain ⟨j, hj⟩ := Option.isSome_iff_exists.1 hf
        obtain ⟨r, hr, _⟩ := idxP_lt hj
        simp only [addFile, hj, hr, List.length_set]
      have := fold_len m rs0 fs (addFile m rs f) acc (fun p => by
        rw [addFile_has, h p]
        by_cases c : gkey f.2 = gkey p
        · have e : (idxP rs0 p).isSome = true := by
            obtain ⟨r, hr, hk⟩ := idxP_lt c0
            rw [idxP_isSome, List.any_eq_true]
            exact ⟨r, List.mem_of_getElem? hr, by rw [hk, c]; simp⟩
          simp [e]
        · simp [c])
      rw [hl] at this
      exact this
    | none =>
      have hn : newsF rs0 (f :: fs) = f :: newsF rs0 fs := by simp [newsF, c0]
      rw [hn, List.map_cons]
      have hm : mergeA acc ((gkey f.2, D.bl true) :: (newsF rs0 fs).map fun f => (gkey f.2, .bl true)) = mergeA (setA acc (gkey f.2) (.bl true)) ((newsF rs0 fs).map fun f => (gkey f.2, .bl true)) := rfl
      rw [hm]
      rw [c0] at hf
      simp only [Option.isSome_none, Bool.false_or] at hf
      have hs := setA_len (kvs := acc) (q := gkey f.2) (d := .bl true)
      have ih := fold_len m rs0 fs (addFile m rs f) (setA acc (gkey f.2) (.bl true)) (fun p => by
        rw [addFile_has, h p, getA_setA]
        by_cases c : gkey f.2 = gkey p
        · simp [c]
        · have c' : ¬ gkey p = gkey f.2 := fun e => c e.symm
          simp [c, c'])
      rw [← hf] at hs
      cases c1 : idxP rs f.2 with
      | some j =>
        obtain ⟨r, hr, _⟩ := idxP_lt c1
        have hl : (addFile m rs f).length = rs.length := by simp only [addFile, c1, hr, List.length_set]
        rw [c1] at hs
        simp at hs
        rw [hl] at ih
        omega
      | none =>
        have hl : (addFile m rs f).length = rs.length + 1 := by simp only [addFile, c1]; simp
        rw [c1] at hs
        simp at hs
        rw [hl] at ih
        omega
theorem takeRows_len (m : Int) (rs : List Row) (fs : List (Str × Pic)) : (takeRows m rs fs).length = rs.length + cntN rs fs := by
  have h := fold_len m rs fs (rs.map clr) [] (fun p => by
    rw [idxP_map (φ := clr) (fun r => rfl)]
    simp [getA])
  simp only [List.length_nil, Nat.add_zero, List.length_map] at h
  exact h
theorem addFile_ok {m : Int} {rs : List Row} {f : Str × Pic} (hf : PyData.strOk f.1 = true) (h : ∀ r ∈ rs, okS r.places = true) : ∀ r ∈ addFile m rs f, okS r.places = true := by
  intro r hr
  unfold addFile at hr
  split at hr
  · split at hr
    · rename_i q hq
      rcases List.mem_or_eq_of_mem_set hr with hr | rfl
      · exact h r hr
      · have := h q (List.mem_of_getElem? hq)
        simp only [okS, List.all_append, Bool.and_eq_true] at this ⊢
        exact ⟨this, by simp [hf]⟩
    · exact h r hr
  · rcases List.mem_append.1 hr with hr | hr
    · exact h r hr
    · rw [List.mem_singleton] at hr; subst hr; simp [okS, hf]
theorem fold_ok {m : Int} : ∀ {fs : List (Str × Pic)} {rs : List Row}, (∀ f ∈ fs, PyData.strOk f.1 = true) → (∀ r ∈ rs, okS r.places = true) → ∀ r ∈ fs.foldl (addFile m) rs, okS r.places = true
  | [], rs, hf, h => h
  | f :: fs, rs, hf, h => fold_ok (fs := fs) (fun g hg => hf g (List.mem_cons_of_mem _ hg)) (addFile_ok (hf f (List.mem_cons_self ..)) h)
theorem prs_news : ∀ (l : List (Str × Pic)), prsOf (l.map fun f => .tup [gr f.2, .bl true]) = some (l.map fun f => (gkey f.2, .bl true))
  | [] => rfl
  | f :: l => by simp only [List.map_cons, prsOf, pkey_gr, prs_news l]
section
variable {S : Sto} {x : HIx} {t : HSt}
theorem Step.app (os : Sto) : Step S (S ++ os) x x t.n t.n := ⟨rfl, by simp, fun i hi _ => by rw [List.getElem?_append_left hi], fun _ h => .inl h⟩
def pNew (rs : List Row) : D → Bool
  | .tup [_, g] => (match pkey g with | some q => !(getA (byL 0 rs) q).isSome | none => false)
  | _ => false
def gOf : D → D
  | .tup [_, g] => g
  | _ => .non
theorem G_takeHead (h : HallAt S x t) {m : Int} (h0 : 0 ≤ m) (h9 : m ≤ 999) {fs : List (Str × Pic)} (hf : FilesOk fs) (hn : t.n ≤ 60) :
    ∃ S1, F_Hall_take_in [.ref x.h, .int m, .tup (fs.map fileD)] S = (if 60 < t.n + cntN t.rows fs then .exc "Full" S1 else
      bodyRes ((sSeq (sSet 4 (eComp [5] (iSeq (e1 (fldD "rows") (eVar 0))) (gN 5) tTrue (eCall listD (aCons (e2 dgetS (eVar 5) (eC (.str "places"))) aNil))))
    (sSeq (sFor (iSeq (e1 (fldD "rows") (eVar 0))) (gN 5) lp_clr)
    (sSeq (sFor (iSeq (eVar 2)) (gT 2 (gsC (gN 6) (gsC (gN 7) gs0))) lp_add)
    (sRet (eMeth "told_of" F_Hall_told_of (eVar 0) (aCons (eVar 4) aNil)))))) [some (.ref x.h), some (.int m), some (.tup (fs.map fileD)), some (.lst ((newsF t.rows fs).map fun f => gr f.2)), none, none, none, none] S1)) ∧ HallAt S1 x t ∧ Step S S1 x x t.n t.n := by
  have hfl := hf.len
  refine ⟨S ++ [.dP (mergeA [] ((newsF t.rows fs).map fun f => (gkey f.2, .bl true)))], ?_, h.app _, Step.app _⟩
  have e : F_Hall_take_in [.ref x.h, .int m, .tup (fs.map fileD)] S = bodyRes (b_Hall_take_in [some (.ref x.h), some (.int m), some (.tup (fs.map fileD)), none, none, none, none, none] S) := rfl
  rw [e]
  unfold b_Hall_take_in
  have hw : F_is_whole [.int m, .int 0, .int 999] S = .ok (.bl true) S := by
    rw [F_whole ⟨_, rfl⟩]; simp [isW, h0, h9]
  rw [sq_f (S1 := S) (by simp [hw])]
  rw [sq_f (S1 := S) (by simp [F_files hf])]
  have hnew : ∀ f : Str × Pic, pNew t.rows (fileD f) = (idxP t.rows f.2).isNone := fun f => by
    simp only [pNew, fileD, pkey_gr, getA_byL, Option.isSome_map, Option.not_isSome]
  rw [sq_set (S1 := S) (d := .lst ((newsF t.rows fs).map fun f => gr f.2)) (by
    rw [eComp_filter (it := ⟨fs.map fileD, none⟩) (S1 := S) (p := pNew t.rows) (φ := gOf) (by simp [iSeq, seqIts]) trivial (by simp; unfold sz; omega) (fun d hd => ?_)]
    · have ee : ∀ l : List (Str × Pic), ((l.map fileD).filter (pNew t.rows)).map gOf = (newsF t.rows l).map fun f => gr f.2 := by
        intro l
        induction l with
        | nil => rfl
        | cons f l ih =>
          simp only [newsF] at ih ⊢
          simp only [List.map_cons, List.filter_cons, hnew]
          split
          · simp only [List.map_cons, ih]; rfl
          · exact ih
      rw [ee]
    · obtain ⟨f, hf', rfl⟩ := List.mem_map.1 hd
      refine ⟨_, rfl, ?_, fun _ => ?_⟩
      · simp [wipeF, h.by_, h.inBy, hnew]
      · simp [wipeF, gOf, fileD])]
  simp only [List.set_cons_succ, List.set_cons_zero]
  have hnl : (newsF t.rows fs).length ≤ 60 := Nat.le_trans (List.length_filter_le _ _) hfl
  have hcomp : eComp [7] (iSeq (eVar 3)) (gN 7) tTrue (eTup (aCons (eVar 7) (aCons (eC (.bl true)) aNil))) [some (.ref x.h), some (.int m), some (.tup (fs.map fileD)), some (.lst ((newsF t.rows fs).map fun f => gr f.2)), none, none, none, none] S = .ok (.lst ((newsF t.rows fs).map fun f => .tup [gr f.2, .bl true])) S := by
    rw [comp_seq (S1 := S) (ds := (newsF t.rows fs).map fun f => gr f.2) (φ := fun d => .tup [d, .bl true])]
    · simp [List.map_map, Function.comp_def]
    · right; simp
    · simp; unfold sz; omega
    · intro d hd
      simp [wipeF, sz]
  have hdict : dictD [.lst ((newsF t.rows fs).map fun f => .tup [gr f.2, .bl true])] S = .ok (.ref S.length) (S ++ [.dP (mergeA [] ((newsF t.rows fs).map fun f => (gkey f.2, .bl true)))]) := by
    have : ((newsF t.rows fs).map fun f => D.tup [gr f.2, .bl true]).length < sz := by simp; unfold sz; omega
    simp only [dictD, lstOf_lst, prs_news, if_pos this]
  have hlen : lenPd [.ref S.length] (S ++ [.dP (mergeA [] ((newsF t.rows fs).map fun f => (gkey f.2, .bl true)))]) = .ok (.int (cntN t.rows fs)) (S ++ [.dP (mergeA [] ((newsF t.rows fs).map fun f => (gkey f.2, .bl true)))]) := by
    simp [lenPd, dPof, cntN]
  have htest : tVal (e2 gtD (e2 addD (eCall lenD (aCons (e1 (fldD "rows") (eVar 0)) aNil)) (eCall lenPd (aCons (eCall dictD (aCons (eComp [7] (iSeq (eVar 3)) (gN 7) tTrue (eTup (aCons (eVar 7) (aCons (eC (.bl true)) aNil)))) aNil)) aNil))) (eC (.int 60))) [some (.ref x.h), some (.int m), some (.tup (fs.map fileD)), some (.lst ((newsF t.rows fs).map fun f => gr f.2)), none, none, none, none] S =
      .ok (decide (60 < t.n + cntN t.rows fs)) (S ++ [.dP (mergeA [] ((newsF t.rows fs).map fun f => (gkey f.2, .bl true)))]) := by
    simp only [ap_val, ap_2, ap_1, ap_call, ap_cons, ap_nil, ap_c, ap_var, List.getElem?_cons_succ, List.getElem?_cons_zero, Res.bind_ok, h.rows, h.lenR, hcomp, hdict, hlen, ap_add, ap_gt]
    congr 1
    rw [decide_eq_decide]
    omega
  by_cases c : 60 < t.n + cntN t.rows fs
  · rw [if_pos c, sq_t (S1 := S ++ [.dP (mergeA [] ((newsF t.rows fs).map fun f => (gkey f.2, .bl true)))]) (by rw [htest]; simp [c])]
    simp [sSeq, sRaise]
  · rw [if_neg c, sq_f (S1 := S ++ [.dP (mergeA [] ((newsF t.rows fs).map fun f => (gkey f.2, .bl true)))]) (by rw [htest]; simp [c])]
theorem G_takeFull (h : HallAt S x t) {m : Int} (h0 : 0 ≤ m) (h9 : m ≤ 999) {fs : List (Str × Pic)} (hf : FilesOk fs) (hn : t.n ≤ 60) (hc : 60 < t.n + cntN t.rows fs) :
    ∃ S', F_Hall_take_in [.ref x.h, .int m, .tup (fs.map fileD)] S = .exc "Full" S' ∧ HallAt S' x t ∧ Step S S' x x t.n t.n := by
  obtain ⟨S1, e, h1, s1⟩ := G_takeHead h h0 h9 hf hn
  rw [if_pos hc] at e
  exact ⟨S1, e, h1, s1⟩
theorem G_take (h : HallAt S x t) {m : Int} (h0 : 0 ≤ m) (h9 : m ≤ 999) {fs : List (Str × Pic)} (hf : FilesOk fs) (hn : t.n ≤ 60) (hp : ∀ r ∈ t.rows, okS r.places = true) (hc : t.n + cntN t.rows fs ≤ 60) :
    ∃ S' x', F_Hall_take_in [.ref x.h, .int m, .tup (fs.map fileD)] S = .ok (toldD (placesL t) (placesL (takeSt t m fs))) S' ∧ HallAt S' x' (takeSt t m fs) ∧ Step S S' x x' t.n (takeSt t m fs).n := by
  obtain ⟨S1, e, h1, s1⟩ := G_takeHead h h0 h9 hf hn
  rw [if_neg (by omega)] at e
  have hfl := hf.len
  have hfr : ∀ fr : Fr, fr[0]? = some (some (.ref x.h)) → iSeq (e1 (fldD "rows") (eVar 0)) fr S1 = .ok ⟨tb t.n fun i => .ref (x.K i), some (x.L 0, tb t.n fun i => .ref (x.K i))⟩ S1 := fun fr h0' => by
    simp [iSeq, h0', h1.rows, seqIts, h1.ir]
  rw [sq_set (S1 := S1) (d := befD (placesL t)) (by
    have := eComp_st (vs := [5]) (g := gN 5) (c := tTrue) (e := eCall listD (aCons (e2 dgetS (eVar 5) (eC (.str "places"))) aNil)) (hfr [some (.ref x.h), some (.int m), some (.tup (fs.map fileD)), some (.lst ((newsF t.rows fs).map fun f => gr f.2)), none, none, none, none] rfl) (fun j => .lst (strsD ((placesL t).getD j []))) (fun _ => S1) rfl (by simp; unfold sz; omega) (fun j d hj => ⟨h1.ir, _, rfl, rfl, ?_⟩) h1.ir
    · rw [this]
      congr 1
      simp only [tb_len, befD]
      congr 1
      apply List.ext_getElem
      · simp [HSt.n]
      · intro j hj1 hj2
        simp at hj1 hj2
        simp [placesL, List.getD, hj2]
    · simp only [tb_get?] at hj
      split at hj
      · rename_i hjn
        cases hj
        have hjn' : j < t.rows.length := hjn
        have hrj := List.getElem?_eq_getElem hjn'
        simp [wipeF, r_places S1 (h1.ik j _ hrj), listD, seqOf, lstOf, h1.il j _ hrj, placesL, List.getD, hjn']
      · cases hj)] at e
  simp only [List.set_cons_succ, List.set_cons_zero] at e
  obtain ⟨S2, x2, o5, eL, h2, s2, _⟩ := loop_clr (n := t.n) (l0 := x.L 0) (K0 := x.K) (by omega) (some (.ref x.h)) (some (.int m)) (some (.tup (fs.map fileD))) (some (.lst ((newsF t.rows fs).map fun f => gr f.2))) (some (befD (placesL t))) none none t.n 0 (by omega) S1 x t none rfl h1 rfl rfl
  have hc0 : clrFrom 0 t.rows = t.rows.map clr := by simp [clrFrom]
  rw [hc0] at h2
  rw [sq_nx (show sFor _ (gN 5) lp_clr _ _ = _ by
    simp only [sFor, hfr [some (.ref x.h), some (.int m), some (.tup (fs.map fileD)), some (.lst ((newsF t.rows fs).map fun f => gr f.2)), some (befD (placesL t)), none, none, none] rfl, Res.then_ok]
    simpa using eL)] at e
  have hx2 : x2.h = x.h := s2.hh
  have hn2 : (⟨t.rows.map clr, t.past⟩ : HSt).n = t.n := by simp [HSt.n]
  obtain ⟨S3, x3, b5, b6, b7, eA, h3, s3, _⟩ := loop_add (it := ⟨fs.map fileD, none⟩) rfl m (some (.tup (fs.map fileD))) (some (.lst ((newsF t.rows fs).map fun f => gr f.2))) (some (befD (placesL t))) fs S2 x2 ⟨t.rows.map clr, t.past⟩ 0 o5 none none h2 (by rw [hn2]; omega) (by omega) (fun r hr => by obtain ⟨q, _, rfl⟩ := List.mem_map.1 hr; simp)
  rw [hx2] at eA
  rw [sq_nx (show sFor _ (gT 2 (gsC (gN 6) (gsC (gN 7) gs0))) lp_add _ _ = _ by
    simp only [sFor, iSeq, ap_var, List.getElem?_cons_succ, List.getElem?_cons_zero, Res.bind_ok, seqIts, Res.then_ok]
    exact eA)] at e
  have h3' : HallAt S3 x3 (takeSt t m fs) := h3
  have hx3 : x3.h = x.h := s3.hh.trans hx2
  have hlen : (takeSt t m fs).n = t.n + cntN t.rows fs := takeRows_len m t.rows fs
  have okP : ∀ zs ∈ placesL (takeSt t m fs), okS zs = true := fun zs hz => by
    obtain ⟨r, hr, rfl⟩ := List.mem_map.1 hz
    exact fold_ok (fun f hf' => (placeOk_iff.1 (hf.pl f hf')).2.2.2.2.1) (fun r hr => by obtain ⟨q, _, rfl⟩ := List.mem_map.1 hr; rfl) r hr
  have hT := G_told h3' (as := placesL t) (by simp only [placesL, List.length_map]; rw [hlen]; exact Nat.le_add_right _ _) (by omega) (fun zs hz => by obtain ⟨r, hr, rfl⟩ := List.mem_map.1 hz; exact hp r hr) okP
  rw [hx3] at hT
  refine ⟨S3, x3, ?_, h3', ?_⟩
  · rw [e]
    have hm : eMeth "told_of" F_Hall_told_of (eVar 0) (aCons (eVar 4) aNil) [some (.ref x.h), some (.int m), some (.tup (fs.map fileD)), some (.lst ((newsF t.rows fs).map fun f => gr f.2)), some (befD (placesL t)), b5, b6, b7] S3 = .ok (toldD (placesL t) (placesL (takeSt t m fs))) S3 := by
      rw [h3'.meth (by simp [hx3]) nf_told]
      simp [hx3, hT]
    simp only [sRet, hm, Res.then_ok]
    rfl
  · refine (s1.trans s2).trans ?_
    rw [hn2] at s3
    exact s3
end
end Py
set_option maxRecDepth 100000
set_option maxHeartbeats 1000000
namespace Py
open PySem PySem.Spec PyProof.Rows L2
/-! ### rules -/
inductive Rule where
  | mark (w : Str) | stars (k : Int) | from_ (a b : Int) | in_ (z : Str) | wide | lost | changed
  | all (rs : List Rule) | any (rs : List Rule) | not (r : Rule)
mutual
def Rule.d : Rule → D
  | .mark w => .tup [.str "mark", .str w]
  | .stars k => .tup [.str "stars", .int k]
  | .from_ a b => .tup [.str "from", .int a, .int b]
  | .in_ z => .tup [.str "in", .str z]
  | .wide => .tup [.str "wide"]
  | .lost => .tup [.str "lost"]
  | .changed => .tup [.str "changed"]
  | .all rs => .tup [.str "all", .tup (Rule.ds rs)]
  | .any rs => .tup [.str "any", .tup (Rule.ds rs)]
  | .not r => .tup [.str "not", r.d]
def Rule.ds : List Rule → List D
  | [] => []
  | r :: rs => r.d :: Rule.ds rs
end
mutual
def Rule.dep : Rule → Nat
  | .all rs => Rule.deps rs + 1
  | .any rs => Rule.deps rs + 1
  | .not r => r.dep + 1
  | _ => 1
def Rule.deps : List Rule → Nat
  | [] => 0
  | r :: rs => max r.dep (Rule.deps rs)
end
/-- what rules look at -/
structure Kn where
  marks : List Str
  stars : Int
  moment : Int
  places : List Str
  wide : Bool
  changed : Bool
def withinB (p z : Str) : Bool := p == z || Txt.startswith p (z ++ "/")
mutual
def Rule.holds (k : Kn) : Rule → Bool
  | .mark w => decide (w ∈ k.marks)
  | .stars n => decide (n ≤ k.stars)
  | .from_ a b => decide (a ≤ k.moment) && decide (k.moment ≤ b)
  | .in_ z => k.places.any fun p => withinB p z
  | .wide => k.wide
  | .lost => decide (k.places = [])
  | .changed => k.changed
  | .all rs => Rule.holdsAll k rs
  | .any rs => Rule.holdsAny k rs
  | .not r => !r.holds k
def Rule.holdsAll (k : Kn) : List Rule → Bool
  | [] => true
  | r :: rs => r.holds k && Rule.holdsAll k rs
def Rule.holdsAny (k : Kn) : List Rule → Bool
  | [] => false
  | r :: rs => r.holds k || Rule.holdsAny k rs
end
def wordOkB (w : Str) : Bool := decide (w.length ≤ 1000) && wordB w && PyData.strOk w && PyData.strOk (Txt.stripChars w LET)
mutual
def Rule.ok : Rule → Bool
  | .mark w => wordOkB w
  | .stars n => decide (0 ≤ n) && decide (n ≤ 5)
  | .from_ a b => (decide (0 ≤ a) && decide (a ≤ 999)) && (decide (0 ≤ b) && decide (b ≤ 999))
  | .in_ z => placeOkB z
  | .all rs => decide (rs.length ≤ 4) && Rule.oks rs
  | .any rs => decide (rs.length ≤ 4) && Rule.oks rs
  | .not r => r.ok
  | _ => true
def Rule.oks : List Rule → Bool
  | [] => true
  | r :: rs => r.ok && Rule.oks rs
end
theorem Rule.ds_eq : ∀ rs : List Rule, Rule.ds rs = rs.map Rule.d
  | [] => by simp [Rule.ds]
  | r :: rs => by simp [Rule.ds, Rule.ds_eq rs]
theorem Rule.deps_mem : ∀ {rs : List Rule} {r : Rule}, r ∈ rs → r.dep ≤ Rule.deps rs
  | [], r, h => by simp at h
  | q :: rs, r, h => by
    simp only [Rule.deps]
    rcases List.mem_cons.1 h with rfl | h
    · omega
    · have := Rule.deps_mem h; omega
theorem Rule.oks_mem : ∀ {rs : List Rule} {r : Rule}, Rule.oks rs = true → r ∈ rs → r.ok = true
  | [], r, _, h => by simp at h
  | q :: rs, r, ho, h => by
    simp only [Rule.oks, Bool.and_eq_true] at ho
    rcases List.mem_cons.1 h with rfl | h
    · exact ho.1
    · exact Rule.oks_mem ho.2 h
theorem Rule.holdsAll_eq (k : Kn) : ∀ rs : List Rule, Rule.holdsAll k rs = rs.all fun r => r.holds k
  | [] => by simp [Rule.holdsAll]
  | r :: rs => by simp [Rule.holdsAll, Rule.holdsAll_eq k rs]
theorem Rule.holdsAny_eq (k : Kn) : ∀ rs : List Rule, Rule.holdsAny k rs = rs.any fun r => r.holds k
  | [] => by simp [Rule.holdsAny]
  | r :: rs => by simp [Rule.holdsAny, Rule.holdsAny_eq k rs]
theorem Rule.deps_le {n : Nat} : ∀ {rs : List Rule}, (decide (Rule.deps rs ≤ n)) = rs.all fun r => decide (r.dep ≤ n)
  | [] => by simp [Rule.deps]
  | r :: rs => by
    have ih := Rule.deps_le (n := n) (rs := rs)
    rw [List.all_cons, ← ih, Bool.eq_iff_iff, Bool.and_eq_true, decide_eq_true_eq, decide_eq_true_eq, decide_eq_true_eq, Rule.deps]
    omega
theorem wordOk_iff {w : Str} : wordOkB w = true ↔ w.length ≤ 1000 ∧ wordB w = true ∧ PyData.strOk w = true ∧ PyData.strOk (Txt.stripChars w LET) = true := by
  simp only [wordOkB, Bool.and_eq_true, decide_eq_true_eq]
  constructor
  · rintro ⟨⟨⟨a, b⟩, c⟩, d⟩; exact ⟨a, b, c, d⟩
  · rintro ⟨a, b, c, d⟩; exact ⟨⟨⟨a, b⟩, c⟩, d⟩
theorem okr_all : PyData.strOk "all" = true := by decide +kernel
theorem okr_any : PyData.strOk "any" = true := by decide +kernel
theorem okr_not : PyData.strOk "not" = true := by decide +kernel
theorem okr_mark : PyData.strOk "mark" = true := by decide +kernel
theorem okr_stars : PyData.strOk "stars" = true := by decide +kernel
theorem okr_from : PyData.strOk "from" = true := by decide +kernel
theorem okr_in : PyData.strOk "in" = true := by decide +kernel
theorem okr_wide : PyData.strOk "wide" = true := by decide +kernel
theorem okr_lost : PyData.strOk "lost" = true := by decide +kernel
theorem okr_changed : PyData.strOk "changed" = true := by decide +kernel
/-- what is known, in the store -/
def knO (mk pl : Nat) (k : Kn) (a b : Int) : O := .dS [(.inr "marks", .ref mk), (.inr "stars", .int k.stars), (.inr "moment", .int k.moment), (.inr "places", .ref pl), (.inr "size", .tup [.int a, .int b]), (.inr "changed", .bl k.changed)]
structure KnAt (S : Sto) (d : Nat) (k : Kn) : Prop where
  ex : ∃ mk pl a b, S[d]? = some (knO mk pl k a b) ∧ S[mk]? = some (.lst (strsD k.marks)) ∧ S[pl]? = some (.lst (strsD k.places)) ∧ k.wide = decide (b < a)
  om : okS k.marks = true
  op : okS k.places = true
  lp : k.places.length ≤ 1000
section
variable (S : Sto) {d mk pl : Nat} {k : Kn} {a b : Int}
theorem k_marks (h : S[d]? = some (knO mk pl k a b)) : dgetS (.ref d) (.str "marks") S = .ok (.ref mk) S := by simp only [dgetS, h, knO, skey]; rfl
theorem k_stars (h : S[d]? = some (knO mk pl k a b)) : dgetS (.ref d) (.str "stars") S = .ok (.int k.stars) S := by simp only [dgetS, h, knO, skey]; rfl
theorem k_moment (h : S[d]? = some (knO mk pl k a b)) : dgetS (.ref d) (.str "moment") S = .ok (.int k.moment) S := by simp only [dgetS, h, knO, skey]; rfl
theorem k_places (h : S[d]? = some (knO mk pl k a b)) : dgetS (.ref d) (.str "places") S = .ok (.ref pl) S := by simp only [dgetS, h, knO, skey]; rfl
theorem k_size (h : S[d]? = some (knO mk pl k a b)) : dgetS (.ref d) (.str "size") S = .ok (.tup [.int a, .int b]) S := by simp only [dgetS, h, knO, skey]; rfl
theorem k_changed (h : S[d]? = some (knO mk pl k a b)) : dgetS (.ref d) (.str "changed") S = .ok (.bl k.changed) S := by simp only [dgetS, h, knO, skey]; rfl
end
theorem ixr0 {z : Str} {ps : List D} {S : Sto} : ixD (.tup (.str z :: ps)) (.int 0) S = .ok (.str z) S := ix_tup (ds := .str z :: ps) (j := 0) rfl (by simp)
theorem ixr1 {y z : D} {ps : List D} {S : Sto} : ixD (.tup (y :: z :: ps)) (.int 1) S = .ok z S := ix_tup (ds := y :: z :: ps) (j := 1) rfl (by simp)
theorem ixr2 {x y z : D} {ps : List D} {S : Sto} : ixD (.tup (x :: y :: z :: ps)) (.int 2) S = .ok z S := ix_tup (ds := x :: y :: z :: ps) (j := 2) rfl (by simp)
theorem str_add {a b : Str} {S : Sto} (h : a.length + b.length ≤ 1000000) : addD (.str a) (.str b) S = .ok (.str (a ++ b)) S := by
  have : a.length + b.length ≤ sz := h
  simp [addD, this]
theorem F_within {p z : Str} (hp : PyData.strOk p = true) (hz : PyData.strOk z = true) (hl : z.length ≤ 1000) (S : Sto) : F_is_within [.str p, .str z] S = .ok (.bl (withinB p z)) S := by
  show bodyRes (b_is_within [some (.str p), some (.str z)] S) = _
  unfold b_is_within
  have h1 := eqD_str (S := S) hp hz rfl
  have h2 : addD (.str z) (.str "/") S = .ok (.str (z ++ "/")) S := str_add (by have : ("/" : Str).length = 1 := by decide +kernel
                                                                                omega)
  simp only [sRet, ap_or, ap_2, ap_var, ap_c, eM1, List.getElem?_cons_succ, List.getElem?_cons_zero, Res.bind_ok, h1, h2, startsD]
  cases e : (p == z) <;> simp [withinB, e]
noncomputable abbrev FH (j : Nat) : List D → Sto → Res D := recF 2 4 b_holds j
theorem H_holds {S : Sto} {d : Nat} {k : Kn} (hk : KnAt S d k) : ∀ (j : Nat) (r : Rule), r.ok = true → r.dep ≤ j → FH j [r.d, .ref d] S = .ok (.bl (r.holds k)) S
  | 0, r, _, h => by cases r <;> simp [Rule.dep] at h
  | j + 1, r, ho, hd => by
    obtain ⟨mk, pl, a, b, h0, hmk, hpl, hw⟩ := hk.ex
    have ih := H_holds hk j
    show bodyRes (b_holds (FH j) [some r.d, some (.ref d), none, none] S) = _
    unfold b_holds
    cases r with
    | all rs =>
      have dd : Rule.d (.all rs) = .tup [.str "all", .tup (Rule.ds rs)] := by simp only [Rule.d]
      rw [dd]
      have q_all : eqD false (.str "all") (.str "all") S = .ok (.bl true) S := eqD_str okr_all okr_all (by decide +kernel)
      rw [sq_t (S1 := S) (by simp only [ap_val, ap_2, ap_var, ap_c, List.getElem?_cons_zero, Res.bind_ok, ixr0, q_all])]
      simp only [Rule.ok, Bool.and_eq_true, decide_eq_true_eq] at ho
      simp only [Rule.dep] at hd
      have hc : eComp [2] (iSeq (e2 ixD (eVar 0) (eC (.int 1)))) (gN 2) tTrue (eCall (FH j) (aCons (eVar 2) (aCons (eVar 1) aNil))) [some (.tup [.str "all", .tup (Rule.ds rs)]), some (.ref d), none, none] S = .ok (.lst (rs.map fun r => .bl (r.holds k))) S := by
        have hi : iSeq (e2 ixD (eVar 0) (eC (.int 1))) [some (.tup [.str "all", .tup (Rule.ds rs)]), some (.ref d), none, none] S = .ok ⟨rs.map Rule.d, none⟩ S := by
          simp [iSeq, ixr1, seqIts, Rule.ds_eq]
        have := eComp_st (vs := [2]) (g := gN 2) (c := tTrue) (e := eCall (FH j) (aCons (eVar 2) (aCons (eVar 1) aNil))) hi (fun i => .bl ((rs.getD i .wide).holds k)) (fun _ => S) rfl (by simp; unfold sz; omega) (fun i dd hdd => ⟨trivial, _, rfl, rfl, ?_⟩) trivial
        · rw [this]
          congr 2
          apply List.ext_getElem
          · simp
          · intro i h1 h2
            simp at h1 h2
            simp [List.getD, h2]
        · simp only [List.getElem?_map] at hdd
          cases hg : rs[i]? with
          | none => rw [hg] at hdd; cases hdd
          | some r' =>
            rw [hg] at hdd
            cases hdd
            have hm := List.mem_of_getElem? hg
            have := ih r' (Rule.oks_mem ho.2 hm) (by have := Rule.deps_mem hm; omega)
            simp [wipeF, this, List.getD, hg]
      have hq : sRet (eCall allD (aCons (eComp [2] (iSeq (e2 ixD (eVar 0) (eC (.int 1)))) (gN 2) tTrue (eCall (FH j) (aCons (eVar 2) (aCons (eVar 1) aNil)))) aNil)) [some (.tup [.str "all", .tup (Rule.ds rs)]), some (.ref d), none, none] S = .ret (.bl (Rule.holds k (.all rs))) S := by
        simp only [sRet, ap_call, ap_cons, ap_nil, hc, Res.bind_ok, allD, boolsD, lstOf_lst, blsOf_map', Res.then_ok]
        simp [Rule.holds, Rule.holdsAll_eq, List.all_map, List.any_map, Function.comp_def]
      rw [sq_ret hq]
      rfl
    | any rs =>
      have dd : Rule.d (.any rs) = .tup [.str "any", .tup (Rule.ds rs)] := by simp only [Rule.d]
      rw [dd]
      have q_all : eqD false (.str "any") (.str "all") S = .ok (.bl false) S := eqD_str okr_any okr_all (by decide +kernel)
      rw [sq_f (S1 := S) (by simp only [ap_val, ap_2, ap_var, ap_c, List.getElem?_cons_zero, Res.bind_ok, ixr0, q_all])]
      have q_any : eqD false (.str "any") (.str "any") S = .ok (.bl true) S := eqD_str okr_any okr_any (by decide +kernel)
      rw [sq_t (S1 := S) (by simp only [ap_val, ap_2, ap_var, ap_c, List.getElem?_cons_zero, Res.bind_ok, ixr0, q_any])]
      simp only [Rule.ok, Bool.and_eq_true, decide_eq_true_eq] at ho
      simp only [Rule.dep] at hd
      have hc : eComp [2] (iSeq (e2 ixD (eVar 0) (eC (.int 1)))) (gN 2) tTrue (eCall (FH j) (aCons (eVar 2) (aCons (eVar 1) aNil))) [some (.tup [.str "any", .tup (Rule.ds rs)]), some (.ref d), none, none] S = .ok (.lst (rs.map fun r => .bl (r.holds k))) S := by
        have hi : iSeq (e2 ixD (eVar 0) (eC (.int 1))) [some (.tup [.str "any", .tup (Rule.ds rs)]), some (.ref d), none, none] S = .ok ⟨rs.map Rule.d, none⟩ S := by
          simp [iSeq, ixr1, seqIts, Rule.ds_eq]
        have := eComp_st (vs := [2]) (g := gN 2) (c := tTrue) (e := eCall (FH j) (aCons (eVar 2) (aCons (eVar 1) aNil))) hi (fun i => .bl ((rs.getD i .wide).holds k)) (fun _ => S) rfl (by simp; unfold sz; omega) (fun i dd hdd => ⟨trivial, _, rfl, rfl, ?_⟩) trivial
        · rw [this]
          congr 2
          apply List.ext_getElem
          · simp
          · intro i h1 h2
            simp at h1 h2
            simp [List.getD, h2]
        · simp only [List.getElem?_map] at hdd
          cases hg : rs[i]? with
          | none => rw [hg] at hdd; cases hdd
          | some r' =>
            rw [hg] at hdd
            cases hdd
            have hm := List.mem_of_getElem? hg
            have := ih r' (Rule.oks_mem ho.2 hm) (by have := Rule.deps_mem hm; omega)
            simp [wipeF, this, List.getD, hg]
      have hq : sRet (eCall anyD (aCons (eComp [2] (iSeq (e2 ixD (eVar 0) (eC (.int 1)))) (gN 2) tTrue (eCall (FH j) (aCons (eVar 2) (aCons (eVar 1) aNil)))) aNil)) [some (.tup [.str "any", .tup (Rule.ds rs)]), some (.ref d), none, none] S = .ret (.bl (Rule.holds k (.any rs))) S := by
        simp only [sRet, ap_call, ap_cons, ap_nil, hc, Res.bind_ok, anyD, boolsD, lstOf_lst, blsOf_map', Res.then_ok]
        simp [Rule.holds, Rule.holdsAny_eq, List.all_map, List.any_map, Function.comp_def]
      rw [sq_ret hq]
      rfl
    | not q =>
      have dd : Rule.d (.not q) = .tup [.str "not", q.d] := by simp only [Rule.d]
      rw [dd]
      have q_all : eqD false (.str "not") (.str "all") S = .ok (.bl false) S := eqD_str okr_not okr_all (by decide +kernel)
      rw [sq_f (S1 := S) (by simp only [ap_val, ap_2, ap_var, ap_c, List.getElem?_cons_zero, Res.bind_ok, ixr0, q_all])]
      have q_any : eqD false (.str "not") (.str "any") S = .ok (.bl false) S := eqD_str okr_not okr_any (by decide +kernel)
      rw [sq_f (S1 := S) (by simp only [ap_val, ap_2, ap_var, ap_c, List.getElem?_cons_zero, Res.bind_ok, ixr0, q_any])]
      have q_not : eqD false (.str "not") (.str "not") S = .ok (.bl true) S := eqD_str okr_not okr_not (by decide +kernel)
      rw [sq_t (S1 := S) (by simp only [ap_val, ap_2, ap_var, ap_c, List.getElem?_cons_zero, Res.bind_ok, ixr0, q_not])]
      simp only [Rule.ok] at ho
      simp only [Rule.dep] at hd
      have := ih q ho (by omega)
      simp [sSeq, sRet, ixr1, this, Rule.holds]
    | mark w =>
      have dd : Rule.d (.mark w) = .tup [.str "mark", .str w] := by simp only [Rule.d]
      rw [dd]
      have q_all : eqD false (.str "mark") (.str "all") S = .ok (.bl false) S := eqD_str okr_mark okr_all (by decide +kernel)
      rw [sq_f (S1 := S) (by simp only [ap_val, ap_2, ap_var, ap_c, List.getElem?_cons_zero, Res.bind_ok, ixr0, q_all])]
      have q_any : eqD false (.str "mark") (.str "any") S = .ok (.bl false) S := eqD_str okr_mark okr_any (by decide +kernel)
      rw [sq_f (S1 := S) (by simp only [ap_val, ap_2, ap_var, ap_c, List.getElem?_cons_zero, Res.bind_ok, ixr0, q_any])]
      have q_not : eqD false (.str "mark") (.str "not") S = .ok (.bl false) S := eqD_str okr_mark okr_not (by decide +kernel)
      rw [sq_f (S1 := S) (by simp only [ap_val, ap_2, ap_var, ap_c, List.getElem?_cons_zero, Res.bind_ok, ixr0, q_not])]
      have q_mark : eqD false (.str "mark") (.str "mark") S = .ok (.bl true) S := eqD_str okr_mark okr_mark (by decide +kernel)
      rw [sq_t (S1 := S) (by simp only [ap_val, ap_2, ap_var, ap_c, List.getElem?_cons_zero, Res.bind_ok, ixr0, q_mark])]
      simp only [Rule.ok] at ho
      obtain ⟨w1, w2, w3, w4⟩ := wordOk_iff.1 ho
      have hin := in_strs w3 hk.om false S
      rw [← inD_refR hmk] at hin
      simp [sSeq, sRet, ixr1, k_marks S h0, hin, Rule.holds]
    | stars n =>
      have dd : Rule.d (.stars n) = .tup [.str "stars", .int n] := by simp only [Rule.d]
      rw [dd]
      have q_all : eqD false (.str "stars") (.str "all") S = .ok (.bl false) S := eqD_str okr_stars okr_all (by decide +kernel)
      rw [sq_f (S1 := S) (by simp only [ap_val, ap_2, ap_var, ap_c, List.getElem?_cons_zero, Res.bind_ok, ixr0, q_all])]
      have q_any : eqD false (.str "stars") (.str "any") S = .ok (.bl false) S := eqD_str okr_stars okr_any (by decide +kernel)
      rw [sq_f (S1 := S) (by simp only [ap_val, ap_2, ap_var, ap_c, List.getElem?_cons_zero, Res.bind_ok, ixr0, q_any])]
      have q_not : eqD false (.str "stars") (.str "not") S = .ok (.bl false) S := eqD_str okr_stars okr_not (by decide +kernel)
      rw [sq_f (S1 := S) (by simp only [ap_val, ap_2, ap_var, ap_c, List.getElem?_cons_zero, Res.bind_ok, ixr0, q_not])]
      have q_mark : eqD false (.str "stars") (.str "mark") S = .ok (.bl false) S := eqD_str okr_stars okr_mark (by decide +kernel)
      rw [sq_f (S1 := S) (by simp only [ap_val, ap_2, ap_var, ap_c, List.getElem?_cons_zero, Res.bind_ok, ixr0, q_mark])]
      have q_stars : eqD false (.str "stars") (.str "stars") S = .ok (.bl true) S := eqD_str okr_stars okr_stars (by decide +kernel)
      rw [sq_t (S1 := S) (by simp only [ap_val, ap_2, ap_var, ap_c, List.getElem?_cons_zero, Res.bind_ok, ixr0, q_stars])]
      simp [sSeq, sRet, ixr1, k_stars S h0, Rule.holds]
    | from_ a0 b0 =>
      have dd : Rule.d (.from_ a0 b0) = .tup [.str "from", .int a0, .int b0] := by simp only [Rule.d]
      rw [dd]
      have q_all : eqD false (.str "from") (.str "all") S = .ok (.bl false) S := eqD_str okr_from okr_all (by decide +kernel)
      rw [sq_f (S1 := S) (by simp only [ap_val, ap_2, ap_var, ap_c, List.getElem?_cons_zero, Res.bind_ok, ixr0, q_all])]
      have q_any : eqD false (.str "from") (.str "any") S = .ok (.bl false) S := eqD_str okr_from okr_any (by decide +kernel)
      rw [sq_f (S1 := S) (by simp only [ap_val, ap_2, ap_var, ap_c, List.getElem?_cons_zero, Res.bind_ok, ixr0, q_any])]
      have q_not : eqD false (.str "from") (.str "not") S = .ok (.bl false) S := eqD_str okr_from okr_not (by decide +kernel)
      rw [sq_f (S1 := S) (by simp only [ap_val, ap_2, ap_var, ap_c, List.getElem?_cons_zero, Res.bind_ok, ixr0, q_not])]
      have q_mark : eqD false (.str "from") (.str "mark") S = .ok (.bl false) S := eqD_str okr_from okr_mark (by decide +kernel)
      rw [sq_f (S1 := S) (by simp only [ap_val, ap_2, ap_var, ap_c, List.getElem?_cons_zero, Res.bind_ok, ixr0, q_mark])]
      have q_stars : eqD false (.str "from") (.str "stars") S = .ok (.bl false) S := eqD_str okr_from okr_stars (by decide +kernel)
      rw [sq_f (S1 := S) (by simp only [ap_val, ap_2, ap_var, ap_c, List.getElem?_cons_zero, Res.bind_ok, ixr0, q_stars])]
      have q_from : eqD false (.str "from") (.str "from") S = .ok (.bl true) S := eqD_str okr_from okr_from (by decide +kernel)
      rw [sq_t (S1 := S) (by simp only [ap_val, ap_2, ap_var, ap_c, List.getElem?_cons_zero, Res.bind_ok, ixr0, q_from])]
      simp only [sSeq, sRet, ap_chain, ap_2, ap_var, ap_c, List.getElem?_cons_succ, List.getElem?_cons_zero, Res.bind_ok, ixr1, ixr2, k_moment S h0, ap_le]
      by_cases c : a0 ≤ k.moment
      · simp [c, Rule.holds]
      · simp [c, Rule.holds]
    | in_ z =>
      have dd : Rule.d (.in_ z) = .tup [.str "in", .str z] := by simp only [Rule.d]
      rw [dd]
      have q_all : eqD false (.str "in") (.str "all") S = .ok (.bl false) S := eqD_str okr_in okr_all (by decide +kernel)
      rw [sq_f (S1 := S) (by simp only [ap_val, ap_2, ap_var, ap_c, List.getElem?_cons_zero, Res.bind_ok, ixr0, q_all])]
      have q_any : eqD false (.str "in") (.str "any") S = .ok (.bl false) S := eqD_str okr_in okr_any (by decide +kernel)
      rw [sq_f (S1 := S) (by simp only [ap_val, ap_2, ap_var, ap_c, List.getElem?_cons_zero, Res.bind_ok, ixr0, q_any])]
      have q_not : eqD false (.str "in") (.str "not") S = .ok (.bl false) S := eqD_str okr_in okr_not (by decide +kernel)
      rw [sq_f (S1 := S) (by simp only [ap_val, ap_2, ap_var, ap_c, List.getElem?_cons_zero, Res.bind_ok, ixr0, q_not])]
      have q_mark : eqD false (.str "in") (.str "mark") S = .ok (.bl false) S := eqD_str okr_in okr_mark (by decide +kernel)
      rw [sq_f (S1 := S) (by simp only [ap_val, ap_2, ap_var, ap_c, List.getElem?_cons_zero, Res.bind_ok, ixr0, q_mark])]
      have q_stars : eqD false (.str "in") (.str "stars") S = .ok (.bl false) S := eqD_str okr_in okr_stars (by decide +kernel)
      rw [sq_f (S1 := S) (by simp only [ap_val, ap_2, ap_var, ap_c, List.getElem?_cons_zero, Res.bind_ok, ixr0, q_stars])]
      have q_from : eqD false (.str "in") (.str "from") S = .ok (.bl false) S := eqD_str okr_in okr_from (by decide +kernel)
      rw [sq_f (S1 := S) (by simp only [ap_val, ap_2, ap_var, ap_c, List.getElem?_cons_zero, Res.bind_ok, ixr0, q_from])]
      have q_in : eqD false (.str "in") (.str "in") S = .ok (.bl true) S := eqD_str okr_in okr_in (by decide +kernel)
      rw [sq_t (S1 := S) (by simp only [ap_val, ap_2, ap_var, ap_c, List.getElem?_cons_zero, Res.bind_ok, ixr0, q_in])]
      simp only [Rule.ok] at ho
      obtain ⟨z1, z2, z3, z4, z5, z6⟩ := placeOk_iff.1 ho
      have hc : eComp [3] (iSeq (e2 dgetS (eVar 1) (eC (.str "places")))) (gN 3) tTrue (eCall F_is_within (aCons (eVar 3) (aCons (e2 ixD (eVar 0) (eC (.int 1))) aNil))) [some (.tup [.str "in", .str z]), some (.ref d), none, none] S = .ok (.lst (k.places.map fun p => .bl (withinB p z))) S := by
        have hi : iSeq (e2 dgetS (eVar 1) (eC (.str "places"))) [some (.tup [.str "in", .str z]), some (.ref d), none, none] S = .ok ⟨strsD k.places, some (pl, strsD k.places)⟩ S := by
          simp [iSeq, k_places S h0, seqIts, hpl]
        rw [eComp_map hi hpl (by simp; have := hk.lp; unfold sz; omega) (fun dd => match dd with | .str p => .bl (withinB p z) | _ => .non) (fun dd hdd => ?_)]
        · simp [strsD, List.map_map, Function.comp_def]
        · obtain ⟨p, hp, rfl⟩ := List.mem_map.1 hdd
          have hpo : PyData.strOk p = true := (List.all_eq_true.1 hk.op) p hp
          refine ⟨_, rfl, ?_⟩
          simp [wipeF, ixr1, F_within hpo z5 z1]
      have hq : sRet (eCall anyD (aCons (eComp [3] (iSeq (e2 dgetS (eVar 1) (eC (.str "places")))) (gN 3) tTrue (eCall F_is_within (aCons (eVar 3) (aCons (e2 ixD (eVar 0) (eC (.int 1))) aNil)))) aNil)) [some (.tup [.str "in", .str z]), some (.ref d), none, none] S = .ret (.bl (Rule.holds k (.in_ z))) S := by
        simp only [sRet, ap_call, ap_cons, ap_nil, hc, Res.bind_ok, anyD, boolsD, lstOf_lst, blsOf_map', Res.then_ok]
        simp [Rule.holds, List.any_map, Function.comp_def]
      rw [sq_ret hq]
      rfl
    | wide =>
      have dd : Rule.d (.wide) = .tup [.str "wide"] := by simp only [Rule.d]
      rw [dd]
      have q_all : eqD false (.str "wide") (.str "all") S = .ok (.bl false) S := eqD_str okr_wide okr_all (by decide +kernel)
      rw [sq_f (S1 := S) (by simp only [ap_val, ap_2, ap_var, ap_c, List.getElem?_cons_zero, Res.bind_ok, ixr0, q_all])]
      have q_any : eqD false (.str "wide") (.str "any") S = .ok (.bl false) S := eqD_str okr_wide okr_any (by decide +kernel)
      rw [sq_f (S1 := S) (by simp only [ap_val, ap_2, ap_var, ap_c, List.getElem?_cons_zero, Res.bind_ok, ixr0, q_any])]
      have q_not : eqD false (.str "wide") (.str "not") S = .ok (.bl false) S := eqD_str okr_wide okr_not (by decide +kernel)
      rw [sq_f (S1 := S) (by simp only [ap_val, ap_2, ap_var, ap_c, List.getElem?_cons_zero, Res.bind_ok, ixr0, q_not])]
      have q_mark : eqD false (.str "wide") (.str "mark") S = .ok (.bl false) S := eqD_str okr_wide okr_mark (by decide +kernel)
      rw [sq_f (S1 := S) (by simp only [ap_val, ap_2, ap_var, ap_c, List.getElem?_cons_zero, Res.bind_ok, ixr0, q_mark])]
      have q_stars : eqD false (.str "wide") (.str "stars") S = .ok (.bl false) S := eqD_str okr_wide okr_stars (by decide +kernel)
      rw [sq_f (S1 := S) (by simp only [ap_val, ap_2, ap_var, ap_c, List.getElem?_cons_zero, Res.bind_ok, ixr0, q_stars])]
      have q_from : eqD false (.str "wide") (.str "from") S = .ok (.bl false) S := eqD_str okr_wide okr_from (by decide +kernel)
      rw [sq_f (S1 := S) (by simp only [ap_val, ap_2, ap_var, ap_c, List.getElem?_cons_zero, Res.bind_ok, ixr0, q_from])]
      have q_in : eqD false (.str "wide") (.str "in") S = .ok (.bl false) S := eqD_str okr_wide okr_in (by decide +kernel)
      rw [sq_f (S1 := S) (by simp only [ap_val, ap_2, ap_var, ap_c, List.getElem?_cons_zero, Res.bind_ok, ixr0, q_in])]
      have q_wide : eqD false (.str "wide") (.str "wide") S = .ok (.bl true) S := eqD_str okr_wide okr_wide (by decide +kernel)
      rw [sq_t (S1 := S) (by simp only [ap_val, ap_2, ap_var, ap_c, List.getElem?_cons_zero, Res.bind_ok, ixr0, q_wide])]
      have i0 : ixD (.tup [.int a, .int b]) (.int 0) S = .ok (.int a) S := ix_tup (ds := [.int a, .int b]) (j := 0) rfl (by simp)
      have i1 : ixD (.tup [.int a, .int b]) (.int 1) S = .ok (.int b) S := ix_tup (ds := [.int a, .int b]) (j := 1) rfl (by simp)
      simp [sSeq, sRet, k_size S h0, i0, i1, Rule.holds, hw]
    | lost =>
      have dd : Rule.d (.lost) = .tup [.str "lost"] := by simp only [Rule.d]
      rw [dd]
      have q_all : eqD false (.str "lost") (.str "all") S = .ok (.bl false) S := eqD_str okr_lost okr_all (by decide +kernel)
      rw [sq_f (S1 := S) (by simp only [ap_val, ap_2, ap_var, ap_c, List.getElem?_cons_zero, Res.bind_ok, ixr0, q_all])]
      have q_any : eqD false (.str "lost") (.str "any") S = .ok (.bl false) S := eqD_str okr_lost okr_any (by decide +kernel)
      rw [sq_f (S1 := S) (by simp only [ap_val, ap_2, ap_var, ap_c, List.getElem?_cons_zero, Res.bind_ok, ixr0, q_any])]
      have q_not : eqD false (.str "lost") (.str "not") S = .ok (.bl false) S := eqD_str okr_lost okr_not (by decide +kernel)
      rw [sq_f (S1 := S) (by simp only [ap_val, ap_2, ap_var, ap_c, List.getElem?_cons_zero, Res.bind_ok, ixr0, q_not])]
      have q_mark : eqD false (.str "lost") (.str "mark") S = .ok (.bl false) S := eqD_str okr_lost okr_mark (by decide +kernel)
      rw [sq_f (S1 := S) (by simp only [ap_val, ap_2, ap_var, ap_c, List.getElem?_cons_zero, Res.bind_ok, ixr0, q_mark])]
      have q_stars : eqD false (.str "lost") (.str "stars") S = .ok (.bl false) S := eqD_str okr_lost okr_stars (by decide +kernel)
      rw [sq_f (S1 := S) (by simp only [ap_val, ap_2, ap_var, ap_c, List.getElem?_cons_zero, Res.bind_ok, ixr0, q_stars])]
      have q_from : eqD false (.str "lost") (.str "from") S = .ok (.bl false) S := eqD_str okr_lost okr_from (by decide +kernel)
      rw [sq_f (S1 := S) (by simp only [ap_val, ap_2, ap_var, ap_c, List.getElem?_cons_zero, Res.bind_ok, ixr0, q_from])]
      have q_in : eqD false (.str "lost") (.str "in") S = .ok (.bl false) S := eqD_str okr_lost okr_in (by decide +kernel)
      rw [sq_f (S1 := S) (by simp only [ap_val, ap_2, ap_var, ap_c, List.getElem?_cons_zero, Res.bind_ok, ixr0, q_in])]
      have q_wide : eqD false (.str "lost") (.str "wide") S = .ok (.bl false) S := eqD_str okr_lost okr_wide (by decide +kernel)
      rw [sq_f (S1 := S) (by simp only [ap_val, ap_2, ap_var, ap_c, List.getElem?_cons_zero, Res.bind_ok, ixr0, q_wide])]
      have q_lost : eqD false (.str "lost") (.str "lost") S = .ok (.bl true) S := eqD_str okr_lost okr_lost (by decide +kernel)
      rw [sq_t (S1 := S) (by simp only [ap_val, ap_2, ap_var, ap_c, List.getElem?_cons_zero, Res.bind_ok, ixr0, q_lost])]
      have he := eq_nil hk.op false S
      rw [← eqD_refL hpl] at he
      simp [sSeq, sRet, k_places S h0, he, Rule.holds]
    | changed =>
      have dd : Rule.d (.changed) = .tup [.str "changed"] := by simp only [Rule.d]
      rw [dd]
      have q_all : eqD false (.str "changed") (.str "all") S = .ok (.bl false) S := eqD_str okr_changed okr_all (by decide +kernel)
      rw [sq_f (S1 := S) (by simp only [ap_val, ap_2, ap_var, ap_c, List.getElem?_cons_zero, Res.bind_ok, ixr0, q_all])]
      have q_any : eqD false (.str "changed") (.str "any") S = .ok (.bl false) S := eqD_str okr_changed okr_any (by decide +kernel)
      rw [sq_f (S1 := S) (by simp only [ap_val, ap_2, ap_var, ap_c, List.getElem?_cons_zero, Res.bind_ok, ixr0, q_any])]
      have q_not : eqD false (.str "changed") (.str "not") S = .ok (.bl false) S := eqD_str okr_changed okr_not (by decide +kernel)
      rw [sq_f (S1 := S) (by simp only [ap_val, ap_2, ap_var, ap_c, List.getElem?_cons_zero, Res.bind_ok, ixr0, q_not])]
      have q_mark : eqD false (.str "changed") (.str "mark") S = .ok (.bl false) S := eqD_str okr_changed okr_mark (by decide +kernel)
      rw [sq_f (S1 := S) (by simp only [ap_val, ap_2, ap_var, ap_c, List.getElem?_cons_zero, Res.bind_ok, ixr0, q_mark])]
      have q_stars : eqD false (.str "changed") (.str "stars") S = .ok (.bl false) S := eqD_str okr_changed okr_stars (by decide +kernel)
      rw [sq_f (S1 := S) (by simp only [ap_val, ap_2, ap_var, ap_c, List.getElem?_cons_zero, Res.bind_ok, ixr0, q_stars])]
      have q_from : eqD false (.str "changed") (.str "from") S = .ok (.bl false) S := eqD_str okr_changed okr_from (by decide +kernel)
      rw [sq_f (S1 := S) (by simp only [ap_val, ap_2, ap_var, ap_c, List.getElem?_cons_zero, Res.bind_ok, ixr0, q_from])]
      have q_in : eqD false (.str "changed") (.str "in") S = .ok (.bl false) S := eqD_str okr_changed okr_in (by decide +kernel)
      rw [sq_f (S1 := S) (by simp only [ap_val, ap_2, ap_var, ap_c, List.getElem?_cons_zero, Res.bind_ok, ixr0, q_in])]
      have q_wide : eqD false (.str "changed") (.str "wide") S = .ok (.bl false) S := eqD_str okr_changed okr_wide (by decide +kernel)
      rw [sq_f (S1 := S) (by simp only [ap_val, ap_2, ap_var, ap_c, List.getElem?_cons_zero, Res.bind_ok, ixr0, q_wide])]
      have q_lost : eqD false (.str "changed") (.str "lost") S = .ok (.bl false) S := eqD_str okr_changed okr_lost (by decide +kernel)
      rw [sq_f (S1 := S) (by simp only [ap_val, ap_2, ap_var, ap_c, List.getElem?_cons_zero, Res.bind_ok, ixr0, q_lost])]
      simp [sRet, k_changed S h0, Rule.holds]
end Py
set_option maxRecDepth 100000
set_option maxHeartbeats 1000000
namespace Py
open PySem PySem.Spec PyProof.Rows L2
theorem in_aa {z : Str} (hz : PyData.strOk z = true) {S : Sto} {b : Bool} (h : ([("all" : Str), "any"].any (· == z)) = b) : inD false (.str z) (.tup [.str "all", .str "any"]) S = .ok (.bl b) S := by
  subst h
  simp only [inD, dP, toP, toPs, hz, okr_all, okr_any, if_true, Option.map_some, List.any_cons, List.any_nil, PyData.eqv, if_neg Bool.false_ne_true]
theorem in_wlc {z : Str} {ps : List D} {S : Sto} {p : PyData} (hp : dP S (.tup (.str z :: ps)) = some p) : inD false (.tup (.str z :: ps)) (.tup [.tup [.str "wide"], .tup [.str "lost"], .tup [.str "changed"]]) S = .ok (.bl ([PyData.tuple [.str "wide"], .tuple [.str "lost"], .tuple [.str "changed"]].any fun y => PyData.eqv y p)) S := by
  have h2 : dP S (.tup [.tup [.str "wide"], .tup [.str "lost"], .tup [.str "changed"]]) = some (.tuple [.tuple [.str "wide"], .tuple [.str "lost"], .tuple [.str "changed"]]) := by
    show toP 12 S _ = _
    simp only [toP, toPs, okr_wide, okr_lost, okr_changed, if_true, Option.map_some]
  simp only [inD, hp, h2, if_neg Bool.false_ne_true]
noncomputable abbrev FRu (j : Nat) : List D → Sto → Res D := recF 2 3 b_is_rule j
theorem it_tup (xs : List D) (S : Sto) : isiD [.tup xs, .ty "tuple"] S = .ok (.bl true) S := by rw [isi_tup ⟨_, rfl⟩]; rfl
theorem H_rule {S : Sto} : ∀ (j : Nat) (r : Rule) (deep : Nat), r.ok = true → min r.dep (deep + 1) ≤ j → FRu j [r.d, .int deep] S = .ok (.bl (decide (r.dep ≤ deep))) S
  | 0, r, deep, _, h => by cases r <;> simp [Rule.dep] at h <;> omega
  | j + 1, r, deep, ho, hd => by
    have ih := fun r deep => H_rule (S := S) j r deep
    have hp : 1 ≤ r.dep := by cases r <;> simp [Rule.dep]
    show bodyRes (b_is_rule (FRu j) [some r.d, some (.int deep), none] S) = _
    unfold b_is_rule
    cases deep with
    | zero =>
      rw [sq_t (S1 := S) (by simp)]
      have : ¬ r.dep ≤ 0 := by omega
      simp [sSeq, sRet, this]
    | succ deep =>
    have hne : ¬ (((deep + 1 : Nat) : Int) = 0) := by omega
    have hne2 : ¬ ((deep : Int) + 1 = 0) := by omega
    have hsub : ((deep + 1 : Nat) : Int) - 1 = (deep : Int) := by omega
    cases r with
    | all rs =>
      have dd : Rule.d (.all rs) = .tup [.str "all", .tup (Rule.ds rs)] := by simp only [Rule.d]
      rw [dd]
      rw [sq_f (S1 := S) (by simp [hne, hne2, it_tup, ixr0, isStr])]
      have q_aa : inD false (.str "all") (.tup [.str "all", .str "any"]) S = .ok (.bl true) S := in_aa okr_all (by decide +kernel)
      simp only [Rule.ok, Bool.and_eq_true, decide_eq_true_eq] at ho
      simp only [Rule.dep] at hd
      have hl4 : ¬ (4 : Int) < (rs.length : Int) := by omega
      have hc : eComp [2] (iSeq (e2 ixD (eVar 0) (eC (.int 1)))) (gN 2) tTrue (eCall (FRu j) (aCons (eVar 2) (aCons (e2 subD (eVar 1) (eC (.int 1))) aNil))) [some (.tup [.str "all", .tup (Rule.ds rs)]), some (.int ((deep + 1 : Nat) : Int)), none] S = .ok (.lst (rs.map fun r => .bl (decide (r.dep ≤ deep)))) S := by
        have hi : iSeq (e2 ixD (eVar 0) (eC (.int 1))) [some (.tup [.str "all", .tup (Rule.ds rs)]), some (.int ((deep + 1 : Nat) : Int)), none] S = .ok ⟨rs.map Rule.d, none⟩ S := by
          simp [iSeq, ixr1, seqIts, Rule.ds_eq]
        have := eComp_st (vs := [2]) (g := gN 2) (c := tTrue) (e := eCall (FRu j) (aCons (eVar 2) (aCons (e2 subD (eVar 1) (eC (.int 1))) aNil))) hi (fun i => .bl (decide ((rs.getD i .wide).dep ≤ deep))) (fun _ => S) rfl (by simp; unfold sz; omega) (fun i dd hdd => ⟨trivial, _, rfl, rfl, ?_⟩) trivial
        · rw [this]
          congr 2
          apply List.ext_getElem
          · simp
          · intro i h1 h2
            simp at h1 h2
            simp [List.getD, h2]
        · simp only [List.getElem?_map] at hdd
          cases hg : rs[i]? with
          | none => rw [hg] at hdd; cases hdd
          | some r' =>
            rw [hg] at hdd
            cases hdd
            have hm := List.mem_of_getElem? hg
            have hi := ih r' deep (Rule.oks_mem ho.2 hm) (by have := Rule.deps_mem hm; omega)
            simp only [wipeF, List.set_cons_succ, List.set_cons_zero, ap_call, ap_cons, ap_nil, ap_var, ap_2, ap_c, List.getElem?_cons_succ, List.getElem?_cons_zero, Res.bind_ok, ap_sub, hsub, hi]
            simp [List.getD, hg]
      rw [sq_t (S1 := S) (by simp only [ap_val, ap_2, ap_var, ap_c, ap_tup, ap_cons, ap_nil, List.getElem?_cons_zero, Res.bind_ok, ixr0]; simp [q_aa, sz])]
      have hq : (sSeq (sIf (tOrM (tVal (e2 (eqD true) (eCall lenD (aCons (eVar 0) aNil)) (eC (.int 2)))) (tOrM (tNotM (tVal (eCall isiD (aCons (e2 ixD (eVar 0) (eC (.int 1))) (aCons (eC (.ty "tuple")) aNil))))) (tVal (e2 gtD (eCall lenD (aCons (e2 ixD (eVar 0) (eC (.int 1))) aNil)) (eC (.int 4))))))
    (sRet (eC (.bl false)))
    sNil)
    (sRet (eCall allD (aCons (eComp [2] (iSeq (e2 ixD (eVar 0) (eC (.int 1)))) (gN 2) tTrue (eCall (FRu j) (aCons (eVar 2) (aCons (e2 subD (eVar 1) (eC (.int 1))) aNil)))) aNil)))) [some (.tup [.str "all", .tup (Rule.ds rs)]), some (.int ((deep + 1 : Nat) : Int)), none] S = .ret (.bl (decide (Rule.dep (.all rs) ≤ deep + 1))) S := by
        rw [sq_f (S1 := S) (by simp [ixr1, it_tup, Rule.ds_eq, hl4])]
        simp only [sRet, ap_call, ap_cons, ap_nil, hc, Res.bind_ok, allD, boolsD, lstOf_lst, blsOf_map', Res.then_ok]
        have : decide (Rule.dep (.all rs) ≤ deep + 1) = decide (Rule.deps rs ≤ deep) := by rw [decide_eq_decide]; simp only [Rule.dep]; omega
        rw [this, Rule.deps_le]
        simp only [List.all_map, Function.comp_def, id]
      rw [sq_ret hq]
      rfl
    | any rs =>
      have dd : Rule.d (.any rs) = .tup [.str "any", .tup (Rule.ds rs)] := by simp only [Rule.d]
      rw [dd]
      rw [sq_f (S1 := S) (by simp [hne, hne2, it_tup, ixr0, isStr])]
      have q_aa : inD false (.str "any") (.tup [.str "all", .str "any"]) S = .ok (.bl true) S := in_aa okr_any (by decide +kernel)
      simp only [Rule.ok, Bool.and_eq_true, decide_eq_true_eq] at ho
      simp only [Rule.dep] at hd
      have hl4 : ¬ (4 : Int) < (rs.length : Int) := by omega
      have hc : eComp [2] (iSeq (e2 ixD (eVar 0) (eC (.int 1)))) (gN 2) tTrue (eCall (FRu j) (aCons (eVar 2) (aCons (e2 subD (eVar 1) (eC (.int 1))) aNil))) [some (.tup [.str "any", .tup (Rule.ds rs)]), some (.int ((deep + 1 : Nat) : Int)), none] S = .ok (.lst (rs.map fun r => .bl (decide (r.dep ≤ deep)))) S := by
        have hi : iSeq (e2 ixD (eVar 0) (eC (.int 1))) [some (.tup [.str "any", .tup (Rule.ds rs)]), some (.int ((deep + 1 : Nat) : Int)), none] S = .ok ⟨rs.map Rule.d, none⟩ S := by
          simp [iSeq, ixr1, seqIts, Rule.ds_eq]
        have := eComp_st (vs := [2]) (g := gN 2) (c := tTrue) (e := eCall (FRu j) (aCons (eVar 2) (aCons (e2 subD (eVar 1) (eC (.int 1))) aNil))) hi (fun i => .bl (decide ((rs.getD i .wide).dep ≤ deep))) (fun _ => S) rfl (by simp; unfold sz; omega) (fun i dd hdd => ⟨trivial, _, rfl, rfl, ?_⟩) trivial
        · rw [this]
          congr 2
          apply List.ext_getElem
          · simp
          · intro i h1 h2
            simp at h1 h2
            simp [List.getD, h2]
        · simp only [List.getElem?_map] at hdd
          cases hg : rs[i]? with
          | none => rw [hg] at hdd; cases hdd
          | some r' =>
            rw [hg] at hdd
            cases hdd
            have hm := List.mem_of_getElem? hg
            have hi := ih r' deep (Rule.oks_mem ho.2 hm) (by have := Rule.deps_mem hm; omega)
            simp only [wipeF, List.set_cons_succ, List.set_cons_zero, ap_call, ap_cons, ap_nil, ap_var, ap_2, ap_c, List.getElem?_cons_succ, List.getElem?_cons_zero, Res.bind_ok, ap_sub, hsub, hi]
            simp [List.getD, hg]
      rw [sq_t (S1 := S) (by simp only [ap_val, ap_2, ap_var, ap_c, ap_tup, ap_cons, ap_nil, List.getElem?_cons_zero, Res.bind_ok, ixr0]; simp [q_aa, sz])]
      have hq : (sSeq (sIf (tOrM (tVal (e2 (eqD true) (eCall lenD (aCons (eVar 0) aNil)) (eC (.int 2)))) (tOrM (tNotM (tVal (eCall isiD (aCons (e2 ixD (eVar 0) (eC (.int 1))) (aCons (eC (.ty "tuple")) aNil))))) (tVal (e2 gtD (eCall lenD (aCons (e2 ixD (eVar 0) (eC (.int 1))) aNil)) (eC (.int 4))))))
    (sRet (eC (.bl false)))
    sNil)
    (sRet (eCall allD (aCons (eComp [2] (iSeq (e2 ixD (eVar 0) (eC (.int 1)))) (gN 2) tTrue (eCall (FRu j) (aCons (eVar 2) (aCons (e2 subD (eVar 1) (eC (.int 1))) aNil)))) aNil)))) [some (.tup [.str "any", .tup (Rule.ds rs)]), some (.int ((deep + 1 : Nat) : Int)), none] S = .ret (.bl (decide (Rule.dep (.any rs) ≤ deep + 1))) S := by
        rw [sq_f (S1 := S) (by simp [ixr1, it_tup, Rule.ds_eq, hl4])]
        simp only [sRet, ap_call, ap_cons, ap_nil, hc, Res.bind_ok, allD, boolsD, lstOf_lst, blsOf_map', Res.then_ok]
        have : decide (Rule.dep (.any rs) ≤ deep + 1) = decide (Rule.deps rs ≤ deep) := by rw [decide_eq_decide]; simp only [Rule.dep]; omega
        rw [this, Rule.deps_le]
        simp only [List.all_map, Function.comp_def, id]
      rw [sq_ret hq]
      rfl
    | not q =>
      have dd : Rule.d (.not q) = .tup [.str "not", q.d] := by simp only [Rule.d]
      rw [dd]
      rw [sq_f (S1 := S) (by simp [hne, hne2, it_tup, ixr0, isStr])]
      have q_aa : inD false (.str "not") (.tup [.str "all", .str "any"]) S = .ok (.bl false) S := in_aa okr_not (by decide +kernel)
      rw [sq_f (S1 := S) (by simp only [ap_val, ap_2, ap_var, ap_c, ap_tup, ap_cons, ap_nil, List.getElem?_cons_zero, Res.bind_ok, ixr0]; simp [q_aa, sz])]
      have q_not : eqD false (.str "not") (.str "not") S = .ok (.bl true) S := eqD_str okr_not okr_not (by decide +kernel)
      rw [sq_t (S1 := S) (by simp only [ap_val, ap_2, ap_var, ap_c, List.getElem?_cons_zero, Res.bind_ok, ixr0, q_not])]
      simp only [Rule.ok] at ho
      simp only [Rule.dep] at hd
      have hi := ih q deep ho (by omega)
      have : decide (Rule.dep (.not q) ≤ deep + 1) = decide (q.dep ≤ deep) := by rw [decide_eq_decide]; simp only [Rule.dep]; omega
      rw [this]
      simp only [sSeq, sRet, ap_and, ap_2, ap_call, ap_cons, ap_nil, ap_var, ap_c, List.getElem?_cons_succ, List.getElem?_cons_zero, Res.bind_ok, ixr1, ap_sub, hsub, lenD_tup]
      simp [hi]
    | mark w =>
      have dd : Rule.d (.mark w) = .tup [.str "mark", .str w] := by simp only [Rule.d]
      rw [dd]
      rw [sq_f (S1 := S) (by simp [hne, hne2, it_tup, ixr0, isStr])]
      have q_aa : inD false (.str "mark") (.tup [.str "all", .str "any"]) S = .ok (.bl false) S := in_aa okr_mark (by decide +kernel)
      rw [sq_f (S1 := S) (by simp only [ap_val, ap_2, ap_var, ap_c, ap_tup, ap_cons, ap_nil, List.getElem?_cons_zero, Res.bind_ok, ixr0]; simp [q_aa, sz])]
      have q_not : eqD false (.str "mark") (.str "not") S = .ok (.bl false) S := eqD_str okr_mark okr_not (by decide +kernel)
      rw [sq_f (S1 := S) (by simp only [ap_val, ap_2, ap_var, ap_c, List.getElem?_cons_zero, Res.bind_ok, ixr0, q_not])]
      have q_mark : eqD false (.str "mark") (.str "mark") S = .ok (.bl true) S := eqD_str okr_mark okr_mark (by decide +kernel)
      rw [sq_t (S1 := S) (by simp only [ap_val, ap_2, ap_var, ap_c, List.getElem?_cons_zero, Res.bind_ok, ixr0, q_mark])]
      simp only [Rule.ok] at ho
      obtain ⟨w1, w2, w3, w4⟩ := wordOk_iff.1 ho
      simp [sSeq, sRet, ixr1, F_word w1 w4, w2, Rule.dep]
    | stars n =>
      have dd : Rule.d (.stars n) = .tup [.str "stars", .int n] := by simp only [Rule.d]
      rw [dd]
      rw [sq_f (S1 := S) (by simp [hne, hne2, it_tup, ixr0, isStr])]
      have q_aa : inD false (.str "stars") (.tup [.str "all", .str "any"]) S = .ok (.bl false) S := in_aa okr_stars (by decide +kernel)
      rw [sq_f (S1 := S) (by simp only [ap_val, ap_2, ap_var, ap_c, ap_tup, ap_cons, ap_nil, List.getElem?_cons_zero, Res.bind_ok, ixr0]; simp [q_aa, sz])]
      have q_not : eqD false (.str "stars") (.str "not") S = .ok (.bl false) S := eqD_str okr_stars okr_not (by decide +kernel)
      rw [sq_f (S1 := S) (by simp only [ap_val, ap_2, ap_var, ap_c, List.getElem?_cons_zero, Res.bind_ok, ixr0, q_not])]
      have q_mark : eqD false (.str "stars") (.str "mark") S = .ok (.bl false) S := eqD_str okr_stars okr_mark (by decide +kernel)
      rw [sq_f (S1 := S) (by simp only [ap_val, ap_2, ap_var, ap_c, List.getElem?_cons_zero, Res.bind_ok, ixr0, q_mark])]
      have q_stars : eqD false (.str "stars") (.str "stars") S = .ok (.bl true) S := eqD_str okr_stars okr_stars (by decide +kernel)
      rw [sq_t (S1 := S) (by simp only [ap_val, ap_2, ap_var, ap_c, List.getElem?_cons_zero, Res.bind_ok, ixr0, q_stars])]
      simp only [Rule.ok, Bool.and_eq_true, decide_eq_true_eq] at ho
      have hw : F_is_whole [.int n, .int 0, .int 5] S = .ok (.bl true) S := by rw [F_whole ⟨_, rfl⟩]; simp [isW, ho.1, ho.2]
      simp [sSeq, sRet, ixr1, hw, Rule.dep]
    | from_ a0 b0 =>
      have dd : Rule.d (.from_ a0 b0) = .tup [.str "from", .int a0, .int b0] := by simp only [Rule.d]
      rw [dd]
      rw [sq_f (S1 := S) (by simp [hne, hne2, it_tup, ixr0, isStr])]
      have q_aa : inD false (.str "from") (.tup [.str "all", .str "any"]) S = .ok (.bl false) S := in_aa okr_from (by decide +kernel)
      rw [sq_f (S1 := S) (by simp only [ap_val, ap_2, ap_var, ap_c, ap_tup, ap_cons, ap_nil, List.getElem?_cons_zero, Res.bind_ok, ixr0]; simp [q_aa, sz])]
      have q_not : eqD false (.str "from") (.str "not") S = .ok (.bl false) S := eqD_str okr_from okr_not (by decide +kernel)
      rw [sq_f (S1 := S) (by simp only [ap_val, ap_2, ap_var, ap_c, List.getElem?_cons_zero, Res.bind_ok, ixr0, q_not])]
      have q_mark : eqD false (.str "from") (.str "mark") S = .ok (.bl false) S := eqD_str okr_from okr_mark (by decide +kernel)
      rw [sq_f (S1 := S) (by simp only [ap_val, ap_2, ap_var, ap_c, List.getElem?_cons_zero, Res.bind_ok, ixr0, q_mark])]
      have q_stars : eqD false (.str "from") (.str "stars") S = .ok (.bl false) S := eqD_str okr_from okr_stars (by decide +kernel)
      rw [sq_f (S1 := S) (by simp only [ap_val, ap_2, ap_var, ap_c, List.getElem?_cons_zero, Res.bind_ok, ixr0, q_stars])]
      have q_from : eqD false (.str "from") (.str "from") S = .ok (.bl true) S := eqD_str okr_from okr_from (by decide +kernel)
      rw [sq_t (S1 := S) (by simp only [ap_val, ap_2, ap_var, ap_c, List.getElem?_cons_zero, Res.bind_ok, ixr0, q_from])]
      simp only [Rule.ok, Bool.and_eq_true, decide_eq_true_eq] at ho
      have h1 : F_is_whole [.int a0, .int 0, .int 999] S = .ok (.bl true) S := by rw [F_whole ⟨_, rfl⟩]; simp [isW, ho.1.1, ho.1.2]
      have h2 : F_is_whole [.int b0, .int 0, .int 999] S = .ok (.bl true) S := by rw [F_whole ⟨_, rfl⟩]; simp [isW, ho.2.1, ho.2.2]
      simp [sSeq, sRet, ixr1, ixr2, h1, h2, Rule.dep]
    | in_ z =>
      have dd : Rule.d (.in_ z) = .tup [.str "in", .str z] := by simp only [Rule.d]
      rw [dd]
      rw [sq_f (S1 := S) (by simp [hne, hne2, it_tup, ixr0, isStr])]
      have q_aa : inD false (.str "in") (.tup [.str "all", .str "any"]) S = .ok (.bl false) S := in_aa okr_in (by decide +kernel)
      rw [sq_f (S1 := S) (by simp only [ap_val, ap_2, ap_var, ap_c, ap_tup, ap_cons, ap_nil, List.getElem?_cons_zero, Res.bind_ok, ixr0]; simp [q_aa, sz])]
      have q_not : eqD false (.str "in") (.str "not") S = .ok (.bl false) S := eqD_str okr_in okr_not (by decide +kernel)
      rw [sq_f (S1 := S) (by simp only [ap_val, ap_2, ap_var, ap_c, List.getElem?_cons_zero, Res.bind_ok, ixr0, q_not])]
      have q_mark : eqD false (.str "in") (.str "mark") S = .ok (.bl false) S := eqD_str okr_in okr_mark (by decide +kernel)
      rw [sq_f (S1 := S) (by simp only [ap_val, ap_2, ap_var, ap_c, List.getElem?_cons_zero, Res.bind_ok, ixr0, q_mark])]
      have q_stars : eqD false (.str "in") (.str "stars") S = .ok (.bl false) S := eqD_str okr_in okr_stars (by decide +kernel)
      rw [sq_f (S1 := S) (by simp only [ap_val, ap_2, ap_var, ap_c, List.getElem?_cons_zero, Res.bind_ok, ixr0, q_stars])]
      have q_from : eqD false (.str "in") (.str "from") S = .ok (.bl false) S := eqD_str okr_in okr_from (by decide +kernel)
      rw [sq_f (S1 := S) (by simp only [ap_val, ap_2, ap_var, ap_c, List.getElem?_cons_zero, Res.bind_ok, ixr0, q_from])]
      have q_in : eqD false (.str "in") (.str "in") S = .ok (.bl true) S := eqD_str okr_in okr_in (by decide +kernel)
      rw [sq_t (S1 := S) (by simp only [ap_val, ap_2, ap_var, ap_c, List.getElem?_cons_zero, Res.bind_ok, ixr0, q_in])]
      simp only [Rule.ok] at ho
      obtain ⟨z1, z2, z3, z4, z5, z6⟩ := placeOk_iff.1 ho
      simp [sSeq, sRet, ixr1, F_place z1 z2 z3, z4, Rule.dep]
    | wide =>
      have dd : Rule.d (.wide) = .tup [.str "wide"] := by simp only [Rule.d]
      rw [dd]
      rw [sq_f (S1 := S) (by simp [hne, hne2, it_tup, ixr0, isStr])]
      have q_aa : inD false (.str "wide") (.tup [.str "all", .str "any"]) S = .ok (.bl false) S := in_aa okr_wide (by decide +kernel)
      rw [sq_f (S1 := S) (by simp only [ap_val, ap_2, ap_var, ap_c, ap_tup, ap_cons, ap_nil, List.getElem?_cons_zero, Res.bind_ok, ixr0]; simp [q_aa, sz])]
      have q_not : eqD false (.str "wide") (.str "not") S = .ok (.bl false) S := eqD_str okr_wide okr_not (by decide +kernel)
      rw [sq_f (S1 := S) (by simp only [ap_val, ap_2, ap_var, ap_c, List.getElem?_cons_zero, Res.bind_ok, ixr0, q_not])]
      have q_mark : eqD false (.str "wide") (.str "mark") S = .ok (.bl false) S := eqD_str okr_wide okr_mark (by decide +kernel)
      rw [sq_f (S1 := S) (by simp only [ap_val, ap_2, ap_var, ap_c, List.getElem?_cons_zero, Res.bind_ok, ixr0, q_mark])]
      have q_stars : eqD false (.str "wide") (.str "stars") S = .ok (.bl false) S := eqD_str okr_wide okr_stars (by decide +kernel)
      rw [sq_f (S1 := S) (by simp only [ap_val, ap_2, ap_var, ap_c, List.getElem?_cons_zero, Res.bind_ok, ixr0, q_stars])]
      have q_from : eqD false (.str "wide") (.str "from") S = .ok (.bl false) S := eqD_str okr_wide okr_from (by decide +kernel)
      rw [sq_f (S1 := S) (by simp only [ap_val, ap_2, ap_var, ap_c, List.getElem?_cons_zero, Res.bind_ok, ixr0, q_from])]
      have q_in : eqD false (.str "wide") (.str "in") S = .ok (.bl false) S := eqD_str okr_wide okr_in (by decide +kernel)
      rw [sq_f (S1 := S) (by simp only [ap_val, ap_2, ap_var, ap_c, List.getElem?_cons_zero, Res.bind_ok, ixr0, q_in])]
      have hp' : dP S (.tup [.str "wide"]) = some (.tuple [.str "wide"]) := dP_str1 S okr_wide
      have hin := in_wlc (ps := []) hp'
      have hb : ([PyData.tuple [.str "wide"], .tuple [.str "lost"], .tuple [.str "changed"]].any fun y => PyData.eqv y (.tuple [.str "wide"])) = true := by simp [PyData.eqv, PyData.eqvAll]
      rw [hb] at hin
      simp only [sRet, ap_2, ap_var, ap_tup, ap_cons, ap_nil, ap_c, List.getElem?_cons_zero, Res.bind_ok]
      simp [sz, hin, Rule.dep]
    | lost =>
      have dd : Rule.d (.lost) = .tup [.str "lost"] := by simp only [Rule.d]
      rw [dd]
      rw [sq_f (S1 := S) (by simp [hne, hne2, it_tup, ixr0, isStr])]
      have q_aa : inD false (.str "lost") (.tup [.str "all", .str "any"]) S = .ok (.bl false) S := in_aa okr_lost (by decide +kernel)
      rw [sq_f (S1 := S) (by simp only [ap_val, ap_2, ap_var, ap_c, ap_tup, ap_cons, ap_nil, List.getElem?_cons_zero, Res.bind_ok, ixr0]; simp [q_aa, sz])]
      have q_not : eqD false (.str "lost") (.str "not") S = .ok (.bl false) S := eqD_str okr_lost okr_not (by decide +kernel)
      rw [sq_f (S1 := S) (by simp only [ap_val, ap_2, ap_var, ap_c, List.getElem?_cons_zero, Res.bind_ok, ixr0, q_not])]
      have q_mark : eqD false (.str "lost") (.str "mark") S = .ok (.bl false) S := eqD_str okr_lost okr_mark (by decide +kernel)
      rw [sq_f (S1 := S) (by simp only [ap_val, ap_2, ap_var, ap_c, List.getElem?_cons_zero, Res.bind_ok, ixr0, q_mark])]
      have q_stars : eqD false (.str "lost") (.str "stars") S = .ok (.bl false) S := eqD_str okr_lost okr_stars (by decide +kernel)
      rw [sq_f (S1 := S) (by simp only [ap_val, ap_2, ap_var, ap_c, List.getElem?_cons_zero, Res.bind_ok, ixr0, q_stars])]
      have q_from : eqD false (.str "lost") (.str "from") S = .ok (.bl false) S := eqD_str okr_lost okr_from (by decide +kernel)
      rw [sq_f (S1 := S) (by simp only [ap_val, ap_2, ap_var, ap_c, List.getElem?_cons_zero, Res.bind_ok, ixr0, q_from])]
      have q_in : eqD false (.str "lost") (.str "in") S = .ok (.bl false) S := eqD_str okr_lost okr_in (by decide +kernel)
      rw [sq_f (S1 := S) (by simp only [ap_val, ap_2, ap_var, ap_c, List.getElem?_cons_zero, Res.bind_ok, ixr0, q_in])]
      have hp' : dP S (.tup [.str "lost"]) = some (.tuple [.str "lost"]) := dP_str1 S okr_lost
      have hin := in_wlc (ps := []) hp'
      have hb : ([PyData.tuple [.str "wide"], .tuple [.str "lost"], .tuple [.str "changed"]].any fun y => PyData.eqv y (.tuple [.str "lost"])) = true := by simp [PyData.eqv, PyData.eqvAll]
      rw [hb] at hin
      simp only [sRet, ap_2, ap_var, ap_tup, ap_cons, ap_nil, ap_c, List.getElem?_cons_zero, Res.bind_ok]
      simp [sz, hin, Rule.dep]
    | changed =>
      have dd : Rule.d (.changed) = .tup [.str "changed"] := by simp only [Rule.d]
      rw [dd]
      rw [sq_f (S1 := S) (by simp [hne, hne2, it_tup, ixr0, isStr])]
      have q_aa : inD false (.str "changed") (.tup [.str "all", .str "any"]) S = .ok (.bl false) S := in_aa okr_changed (by decide +kernel)
      rw [sq_f (S1 := S) (by simp only [ap_val, ap_2, ap_var, ap_c, ap_tup, ap_cons, ap_nil, List.getElem?_cons_zero, Res.bind_ok, ixr0]; simp [q_aa, sz])]
      have q_not : eqD false (.str "changed") (.str "not") S = .ok (.bl false) S := eqD_str okr_changed okr_not (by decide +kernel)
      rw [sq_f (S1 := S) (by simp only [ap_val, ap_2, ap_var, ap_c, List.getElem?_cons_zero, Res.bind_ok, ixr0, q_not])]
      have q_mark : eqD false (.str "changed") (.str "mark") S = .ok (.bl false) S := eqD_str okr_changed okr_mark (by decide +kernel)
      rw [sq_f (S1 := S) (by simp only [ap_val, ap_2, ap_var, ap_c, List.getElem?_cons_zero, Res.bind_ok, ixr0, q_mark])]
      have q_stars : eqD false (.str "changed") (.str "stars") S = .ok (.bl false) S := eqD_str okr_changed okr_stars (by decide +kernel)
      rw [sq_f (S1 := S) (by simp only [ap_val, ap_2, ap_var, ap_c, List.getElem?_cons_zero, Res.bind_ok, ixr0, q_stars])]
      have q_from : eqD false (.str "changed") (.str "from") S = .ok (.bl false) S := eqD_str okr_changed okr_from (by decide +kernel)
      rw [sq_f (S1 := S) (by simp only [ap_val, ap_2, ap_var, ap_c, List.getElem?_cons_zero, Res.bind_ok, ixr0, q_from])]
      have q_in : eqD false (.str "changed") (.str "in") S = .ok (.bl false) S := eqD_str okr_changed okr_in (by decide +kernel)
      rw [sq_f (S1 := S) (by simp only [ap_val, ap_2, ap_var, ap_c, List.getElem?_cons_zero, Res.bind_ok, ixr0, q_in])]
      have hp' : dP S (.tup [.str "changed"]) = some (.tuple [.str "changed"]) := dP_str1 S okr_changed
      have hin := in_wlc (ps := []) hp'
      have hb : ([PyData.tuple [.str "wide"], .tuple [.str "lost"], .tuple [.str "changed"]].any fun y => PyData.eqv y (.tuple [.str "changed"])) = true := by simp [PyData.eqv, PyData.eqvAll]
      rw [hb] at hin
      simp only [sRet, ap_2, ap_var, ap_tup, ap_cons, ap_nil, ap_c, List.getElem?_cons_zero, Res.bind_ok]
      simp [sz, hin, Rule.dep]
theorem F_rule {r : Rule} (h : r.ok = true) (hd : r.dep ≤ 5) (S : Sto) : F_need_rule [r.d] S = if r.dep ≤ 4 then .ok .non S else .exc "NoRule" S := by
  have hr : F_is_rule [r.d, .int 4] S = .ok (.bl (decide (r.dep ≤ 4))) S := H_rule 6 r 4 h (by omega)
  show bodyRes (b_need_rule [some r.d] S) = _
  unfold b_need_rule
  by_cases c : r.dep ≤ 4
  · simp [sIf, hr, c, sNil]
  · simp [sIf, hr, c, sRaise]
end Py
set_option maxRecDepth 100000
set_option maxHeartbeats 1000000
namespace Py
open PySem PySem.Spec PyProof.Rows L2
/-! ### sorting texts -/
theorem sortD_strs {zs : List Str} (h : okS zs = true) (S : Sto) : sortD S (strsD zs) = strsD (sortS zs) := by
  unfold sortD strsD sortS
  rw [List.map_mergeSort]
  intro a ha b hb
  have oa : PyData.strOk a = true := (List.all_eq_true.1 h) a ha
  have ob : PyData.strOk b = true := (List.all_eq_true.1 h) b hb
  have ea : encS S (.str a) = .str a := by simp [encS, toP, oa]
  have eb : encS S (.str b) = .str b := by simp [encS, toP, ob]
  rw [PySem.W.dataLe_eq]
  simp only [cond_false, ea, eb, PySem.W.dataLt_str, PySem.W.not_lt_str]
theorem sorted_strs {zs : List Str} (h : okS zs = true) (S : Sto) : sortedD [.lst (strsD zs)] S = .ok (.lst (strsD (sortS zs))) S := by
  have h1 : toPs (toP 11 S) (strsD zs) = some (zs.map .str) := toPs_strs h
  simp only [sortedD, lstOf_lst, h1, if_pos (sort_ok h), sortD_strs h]
theorem sorted_ref {zs : List Str} (h : okS zs = true) {S : Sto} {k : Nat} (hk : S[k]? = some (.lst (strsD zs))) : sortedD [.ref k] S = .ok (.lst (strsD (sortS zs))) S := by
  have h1 : toPs (toP 11 S) (strsD zs) = some (zs.map .str) := toPs_strs h
  have h2 : lstOf S (.ref k) = some (strsD zs) := by simp [lstOf, hk]
  simp only [sortedD, h2, h1, if_pos (sort_ok h), sortD_strs h]
theorem sortedN_ref {zs : List Str} (h : okS zs = true) {S : Sto} {k : Nat} (hk : S[k]? = some (.lst (strsD zs))) : sortedN [.ref k] S = .ok (.ref S.length) (S ++ [.lst (strsD (sortS zs))]) := by
  have h1 : toPs (toP 11 S) (strsD zs) = some (zs.map .str) := toPs_strs h
  have h2 : lstOf S (.ref k) = some (strsD zs) := by simp [lstOf, hk]
  simp only [sortedN, h2, h1, if_pos (sort_ok h), sortD_strs h]
theorem sortS_perm (zs : List Str) : (sortS zs).Perm zs := List.mergeSort_perm _ _
theorem okS_perm {zs ws : List Str} (h : zs.Perm ws) : okS zs = okS ws := by
  unfold okS
  rw [Bool.eq_iff_iff, List.all_eq_true, List.all_eq_true]
  exact ⟨fun k w hw => k w (h.mem_iff.2 hw), fun k w hw => k w (h.mem_iff.1 hw)⟩
section
variable {S : Sto} {x : HIx} {t : HSt} {i : Nat} {r : Row}
theorem G_marks (h : HallAt S x t) (hr : t.rows[i]? = some r) (hm : okS r.marks = true) : F_Hall_marks [.ref x.h, .int i] S = .ok (.lst (strsD (sortS r.marks))) S := by
  have hi := (List.getElem?_eq_some_iff.1 hr).1
  show bodyRes (b_Hall_marks [some (.ref x.h), some (.int i)] S) = _
  simp [b_Hall_marks, sRet, need_eq h hi, r_marks S (h.ik i r hr), sorted_ref hm (h.im i r hr)]
theorem G_marksN (h : HallAt S x t) (hr : t.rows[i]? = some r) (hm : okS r.marks = true) : F_Hall_marks_N [.ref x.h, .int i] S = .ok (.ref S.length) (S ++ [.lst (strsD (sortS r.marks))]) := by
  have hi := (List.getElem?_eq_some_iff.1 hr).1
  show bodyRes (b_Hall_marks_N [some (.ref x.h), some (.int i)] S) = _
  simp [b_Hall_marks_N, sRet, need_eq h hi, r_marks S (h.ik i r hr), sortedN_ref hm (h.im i r hr)]
theorem dput1 {v o i : ME} {fr : Fr} {S : Sto} {d : D} {n : Nat} {k : Str} {kvs : List (Key × D)} (h1 : v fr S = .ok d S) (h2 : o fr S = .ok (.ref n) S) (h3 : i fr S = .ok (.str k) S) (h4 : S[n]? = some (.dS kvs)) (hl : kvs.length < 1000) : sDputS v o i fr S = .nx fr (S.set n (.dS (setA kvs (.inr k) d))) := dput_eq h1 h2 h3 h4 hl
/-! ### what rules look at -/
open Classical in
noncomputable def knOf (r : Row) : Kn := ⟨r.marks, r.stars, r.moment, r.places, decide (((shownP r.pic r.deeds).1.2 : Int) < (shownP r.pic r.deeds).1.1), !decide (gr (shownP r.pic r.deeds) = gr r.pic)⟩
theorem G_known (h : HallAt S x t) (hr : t.rows[i]? = some r) (hf : Fits r.pic r.deeds) :
    F_Hall_known [.ref x.h, .int i] S = .ok (.ref S.length) (S ++ [knO (x.L (3 + 2 * i)) (x.L (2 + 2 * i)) (knOf r) (shownP r.pic r.deeds).1.1 (shownP r.pic r.deeds).1.2]) := by
  have hi : i < t.n := (List.getElem?_eq_some_iff.1 hr).1
  have hk := h.ik i r hr
  have hok := hf.ok
  have e : F_Hall_known [.ref x.h, .int i] S = bodyRes (b_Hall_known [some (.ref x.h), some (.int i), none, none, none] S) := rfl
  rw [e]
  unfold b_Hall_known
  rw [sq_set (S1 := S) (d := .ref (x.K i)) (by simp [h.rows, h.ixR hi])]
  simp only [List.set_cons_succ, List.set_cons_zero]
  rw [sq_set (S1 := S) (d := gr (shownP r.pic r.deeds)) (by
    rw [h.meth (by simp) nf_shown]
    simp [G_shown h hr hf])]
  simp only [List.set_cons_succ, List.set_cons_zero]
  have hd : eDictS [.inr "marks", .inr "stars", .inr "moment", .inr "places"] (aCons (e2 dgetS (eVar 2) (eC (.str "marks"))) (aCons (e2 dgetS (eVar 2) (eC (.str "stars"))) (aCons (e2 dgetS (eVar 2) (eC (.str "moment"))) (aCons (e2 dgetS (eVar 2) (eC (.str "places"))) aNil)))) [some (.ref x.h), some (.int i), some (.ref (x.K i)), some (gr (shownP r.pic r.deeds)), none] S =
      .ok (.ref S.length) (S ++ [.dS [(.inr "marks", .ref (x.L (3 + 2 * i))), (.inr "stars", .int r.stars), (.inr "moment", .int r.moment), (.inr "places", .ref (x.L (2 + 2 * i)))]]) := by
    have hk' := (h.app [.dS []]).ik i r hr
    simp only [eDictS, ap_cons, ap_nil, ap_2, ap_var, ap_c, List.getElem?_cons_succ, List.getElem?_cons_zero, Res.bind_ok, r_marks _ hk', r_stars _ hk', r_moment _ hk', r_places _ hk']
    simp
  rw [sq_set hd]
  simp only [List.set_cons_succ, List.set_cons_zero]
  have r0 : ∀ S, ixD (gr (shownP r.pic r.deeds)) (.int 0) S = .ok (.tup (tb (shownP r.pic r.deeds).1.1 fun k => .int ((shownP r.pic r.deeds).2 (0, k)))) S := fun S => g_row (f := fun p => .int ((shownP r.pic r.deeds).2 p)) rfl hok.1.2.1
  have rl : ∀ S, lenD [gr (shownP r.pic r.deeds)] S = .ok (.int (shownP r.pic r.deeds).1.2) S := fun S => g_len S (shownP r.pic r.deeds).1 (fun p => .int ((shownP r.pic r.deeds).2 p))
  have gS : ∀ o : O, (S ++ [o])[S.length]? = some o := fun o => by simp
  rw [sq_nx (dput1 (d := .tup [.int (shownP r.pic r.deeds).1.1, .int (shownP r.pic r.deeds).1.2]) (n := S.length) (k := "size") (by simp [r0, rl, sz]) (by simp) (by simp) (gS _) (by simp))]
  have hset1 : (S ++ [O.dS [(.inr "marks", .ref (x.L (3 + 2 * i))), (.inr "stars", .int r.stars), (.inr "moment", .int r.moment), (.inr "places", .ref (x.L (2 + 2 * i)))]]).set S.length (.dS (setA [(.inr "marks", .ref (x.L (3 + 2 * i))), (.inr "stars", .int r.stars), (.inr "moment", .int r.moment), (.inr "places", .ref (x.L (2 + 2 * i)))] (.inr "size" : Key) (.tup [.int (shownP r.pic r.deeds).1.1, .int (shownP r.pic r.deeds).1.2]))) =
      S ++ [.dS [(.inr "marks", .ref (x.L (3 + 2 * i))), (.inr "stars", .int r.stars), (.inr "moment", .int r.moment), (.inr "places", .ref (x.L (2 + 2 * i))), (.inr "size", .tup [.int (shownP r.pic r.deeds).1.1, .int (shownP r.pic r.deeds).1.2])]] := by
    rw [List.set_append_right _ _ (Nat.le_refl _), Nat.sub_self]
    rfl
  rw [hset1]
  have hk2 := fun os => (h.app os).ik i r hr
  have hne := fun S => eqD_pl (neg := true) (S := S) (pl_gr 9 (shownP r.pic r.deeds)) (pl_gr 9 r.pic)
  rw [sq_nx (dput1 (d := .bl (knOf r).changed) (n := S.length) (k := "changed") (by
    simp only [ap_2, ap_var, ap_c, List.getElem?_cons_succ, List.getElem?_cons_zero, Res.bind_ok, r_first _ (hk2 _), hne]
    simp [knOf]) (by simp) (by simp) (gS _) (by simp))]
  have hset2 : (S ++ [O.dS [(.inr "marks", .ref (x.L (3 + 2 * i))), (.inr "stars", .int r.stars), (.inr "moment", .int r.moment), (.inr "places", .ref (x.L (2 + 2 * i))), (.inr "size", .tup [.int (shownP r.pic r.deeds).1.1, .int (shownP r.pic r.deeds).1.2])]]).set S.length (.dS (setA [(.inr "marks", .ref (x.L (3 + 2 * i))), (.inr "stars", .int r.stars), (.inr "moment", .int r.moment), (.inr "places", .ref (x.L (2 + 2 * i))), (.inr "size", .tup [.int (shownP r.pic r.deeds).1.1, .int (shownP r.pic r.deeds).1.2])] (.inr "changed" : Key) (.bl (knOf r).changed))) =
      S ++ [knO (x.L (3 + 2 * i)) (x.L (2 + 2 * i)) (knOf r) (shownP r.pic r.deeds).1.1 (shownP r.pic r.deeds).1.2] := by
    rw [List.set_append_right _ _ (Nat.le_refl _), Nat.sub_self]
    rfl
  rw [hset2]
  simp [sRet]
/-! ### albums -/
structure RowOk (r : Row) : Prop where
  fit : Fits r.pic r.deeds
  om : okS r.marks = true
  op : okS r.places = true
  lp : r.places.length ≤ 1000
theorem compL_fst {it : Its} {g : MG} {c : MT} {e : ME} {fr : Fr} (q : Nat → Bool) (φ : Nat → D) (σ : Nat → Sto) : ∀ (ds : List D) (i : Nat) (acc : List D),
    (∀ (j : Nat) (d : D), ds[j]? = some d → okG it (σ (i + j)) ∧ ∃ fr1, g d fr = some fr1 ∧ c fr1 (σ (i + j)) = .ok (q (i + j)) (σ (i + j + 1)) ∧ e fr1 (σ (i + j + 1)) = .ok (φ (i + j)) (σ (i + j + 1))) → okG it (σ (i + ds.length)) → acc.length + ds.length ≤ sz →
    compL it g c e fr ds (σ i) acc = .ok (acc ++ (((List.range ds.length).map (i + ·)).filter q).map φ) (σ (i + ds.length))
  | [], i, acc, h, ho, hl => by
    simp only [compL]
    rw [if_pos (by simpa using ho)]
    simp
  | d :: ds, i, acc, h, ho, hl => by
    obtain ⟨h0, fr1, h1, h2, h3⟩ := h 0 d rfl
    simp only [Nat.add_zero] at h0 h1 h2 h3
    simp only [compL]
    rw [if_pos ⟨h0, by simp at hl; omega⟩, h1]
    simp only [h2]
    have hr : ((List.range (d :: ds).length).map (i + ·)) = i :: ((List.range ds.length).map (i + 1 + ·)) := by
      rw [List.length_cons, List.range_succ_eq_map, List.map_cons, List.map_map]
      congr 1
      apply List.map_congr_left
      intro a _
      simp only [Function.comp]
      omega
    have hs : σ (i + (d :: ds).length) = σ (i + 1 + ds.length) := by rw [List.length_cons]; congr 1; omega
    have ih := fun acc' (hl' : acc'.length + ds.length ≤ sz) => compL_fst (it := it) (g := g) (c := c) (e := e) (fr := fr) q φ σ ds (i + 1) acc' (fun j d' hj => by
      have := h (j + 1) d' (by simpa using hj)
      rw [show i + (j + 1) = i + 1 + j by omega] at this
      exact this) (by rw [hs] at ho; exact ho) hl'
    rw [hr, hs]
    cases e1 : q i with
    | true =>
      simp only [h3]
      rw [ih _ (by simp at hl ⊢; omega), List.filter_cons_of_pos e1]
      simp
    | false =>
      simp only
      rw [ih _ (by simp at hl ⊢; omega), List.filter_cons_of_neg (by simp [e1])]
noncomputable def albumK (t : HSt) (u : Rule) : List Nat := (List.range t.n).filter fun i => u.holds (knOf (t.rows.getD i ⟨((0, 0), fun _ => 0), [], [], [], 0, 0⟩))
noncomputable def knSt (x : HIx) (t : HSt) (n : Nat) : Sto := tb n fun i => knO (x.L (3 + 2 * i)) (x.L (2 + 2 * i)) (knOf (t.rows.getD i ⟨((0, 0), fun _ => 0), [], [], [], 0, 0⟩)) (shownP (t.rows.getD i ⟨((0, 0), fun _ => 0), [], [], [], 0, 0⟩).pic (t.rows.getD i ⟨((0, 0), fun _ => 0), [], [], [], 0, 0⟩).deeds).1.1 (shownP (t.rows.getD i ⟨((0, 0), fun _ => 0), [], [], [], 0, 0⟩).pic (t.rows.getD i ⟨((0, 0), fun _ => 0), [], [], [], 0, 0⟩).deeds).1.2
theorem album_comp (h : HallAt S x t) (hr : ∀ r ∈ t.rows, RowOk r) (hn : t.n ≤ 1000) {u : Rule} (hu : u.ok = true) (hd : u.dep ≤ 6) :
    compL ⟨rngD 0 t.n, none⟩ (gN 2) (tVal (eCall F_holds (aCons (eVar 1) (aCons (eMeth "known" F_Hall_known (eVar 0) (aCons (eVar 2) aNil)) aNil)))) (eVar 2) [some (.ref x.h), some u.d, none] (rngD 0 t.n) S [] = .ok ((albumK t u).map fun (k : Nat) => .int (k : Int)) (S ++ knSt x t t.n) := by
  have := compL_fst (it := ⟨rngD 0 t.n, none⟩) (g := gN 2) (c := tVal (eCall F_holds (aCons (eVar 1) (aCons (eMeth "known" F_Hall_known (eVar 0) (aCons (eVar 2) aNil)) aNil)))) (e := eVar 2) (fr := [some (.ref x.h), some u.d, none]) (fun i => u.holds (knOf (t.rows.getD i ⟨((0, 0), fun _ => 0), [], [], [], 0, 0⟩))) (fun (k : Nat) => .int (k : Int)) (fun k => S ++ knSt x t k) (rngD 0 t.n) 0 [] (fun j d hj => ?_) trivial (by simp [rngD_len]; unfold sz; omega)
  · simp only [knSt, rngD_len, Nat.zero_add, List.nil_append] at this
    have e0 : S ++ tb 0 (fun i => knO (x.L (3 + 2 * i)) (x.L (2 + 2 * i)) (knOf (t.rows.getD i ⟨((0, 0), fun _ => 0), [], [], [], 0, 0⟩)) (shownP (t.rows.getD i ⟨((0, 0), fun _ => 0), [], [], [], 0, 0⟩).pic (t.rows.getD i ⟨((0, 0), fun _ => 0), [], [], [], 0, 0⟩).deeds).1.1 (shownP (t.rows.getD i ⟨((0, 0), fun _ => 0), [], [], [], 0, 0⟩).pic (t.rows.getD i ⟨((0, 0), fun _ => 0), [], [], [], 0, 0⟩).deeds).1.2) = S := by simp [tb]
    rw [e0] at this
    rw [this]
    simp [albumK, knSt]
  · have hjn : j < t.n := by have := (List.getElem?_eq_some_iff.1 hj).1; rwa [rngD_len] at this
    rw [rngD_get hjn] at hj
    cases hj
    have hjr : j < t.rows.length := hjn
    have hg : t.rows[j]? = some (t.rows.getD j ⟨((0, 0), fun _ => 0), [], [], [], 0, 0⟩) := by rw [List.getElem?_eq_getElem hjr]; simp [List.getD, hjr]
    have ro := hr _ (List.mem_of_getElem? hg)
    simp only [Nat.zero_add]
    have hS := h.app (knSt x t j)
    have hk := G_known hS hg ro.fit
    refine ⟨trivial, _, rfl, ?_, ?_⟩
    · have hA : KnAt (S ++ knSt x t (j + 1)) (S ++ knSt x t j).length (knOf (t.rows.getD j ⟨((0, 0), fun _ => 0), [], [], [], 0, 0⟩)) := by
        have hS1 := h.app (knSt x t (j + 1))
        refine ⟨⟨x.L (3 + 2 * j), x.L (2 + 2 * j), _, _, ?_, hS1.im j _ hg, hS1.il j _ hg, rfl⟩, ro.om, ro.op, ro.lp⟩
        rw [knSt, tb_succ, ← List.append_assoc]
        show ((S ++ knSt x t j) ++ [_])[(S ++ knSt x t j).length]? = _
        rw [List.getElem?_append_right (Nat.le_refl _), Nat.sub_self]
        rfl
      have hh : F_holds [u.d, .ref (S ++ knSt x t j).length] (S ++ knSt x t (j + 1)) = .ok (.bl (u.holds (knOf (t.rows.getD j ⟨((0, 0), fun _ => 0), [], [], [], 0, 0⟩)))) (S ++ knSt x t (j + 1)) := H_holds hA 6 u hu hd
      have hs1 : S ++ knSt x t (j + 1) = (S ++ knSt x t j) ++ [knO (x.L (3 + 2 * j)) (x.L (2 + 2 * j)) (knOf (t.rows.getD j ⟨((0, 0), fun _ => 0), [], [], [], 0, 0⟩)) (shownP (t.rows.getD j ⟨((0, 0), fun _ => 0), [], [], [], 0, 0⟩).pic (t.rows.getD j ⟨((0, 0), fun _ => 0), [], [], [], 0, 0⟩).deeds).1.1 (shownP (t.rows.getD j ⟨((0, 0), fun _ => 0), [], [], [], 0, 0⟩).pic (t.rows.getD j ⟨((0, 0), fun _ => 0), [], [], [], 0, 0⟩).deeds).1.2] := by
        rw [knSt, tb_succ, ← List.append_assoc]; rfl
      have hm : eMeth "known" F_Hall_known (eVar 0) (aCons (eVar 2) aNil) [some (.ref x.h), some u.d, some (.int (j : Int))] (S ++ knSt x t j) = .ok (.ref (S ++ knSt x t j).length) (S ++ knSt x t (j + 1)) := by
        rw [hS.meth (by simp) nf_known, hs1]
        simp only [ap_cons, ap_nil, ap_var, List.getElem?_cons_succ, List.getElem?_cons_zero, Res.bind_ok, hk]
      simp only [List.set_cons_succ, List.set_cons_zero, Int.zero_add, ap_val, ap_call, ap_cons, ap_nil, ap_var, List.getElem?_cons_succ, List.getElem?_cons_zero, Res.bind_ok, hm, hh]
    · simp
theorem leave_app {S extra : Sto} {d : D} (h : d.lower S.length = true) : leaveR S (.ok d (S ++ extra)) = .ok d S := by
  simp only [leaveR, if_pos (kept_app S extra), dem_lower 8 d h]
  simp
theorem lower_nums (ks : List Nat) (n : Nat) : (numsD ks).lower n = true := by
  simp only [D.lower]
  refine lowerL_of fun d hd => ?_
  obtain ⟨k, _, rfl⟩ := List.mem_map.1 hd
  simp only [D.lower]
theorem G_album (h : HallAt S x t) (hr : ∀ r ∈ t.rows, RowOk r) (hn : t.n ≤ 1000) {u : Rule} (hu : u.ok = true) (hd : u.dep ≤ 4) : F_Hall_album [.ref x.h, u.d] S = .ok (numsD (albumK t u)) S := by
  have e : F_Hall_album [.ref x.h, u.d] S = leaveR S (bodyRes (b_Hall_album [some (.ref x.h), some u.d, none] S)) := rfl
  rw [e]
  unfold b_Hall_album
  rw [sq_ex (S1 := S) (d := .non) (by simp [F_rule hu (by omega), hd])]
  have hi : iRng1' (aCons (eCall lenD (aCons (e1 (fldD "rows") (eVar 0)) aNil)) aNil) [some (.ref x.h), some u.d, none] S = .ok ⟨rngD 0 t.n, none⟩ S := irng (by simp [h.rows, h.lenR]) (by omega)
  rw [s_ret (S1 := S ++ knSt x t t.n) (d := numsD (albumK t u)) (by
    unfold eComp
    rw [hi, Res.bind_ok]
    have := album_comp h hr hn hu (by omega)
    simp only [wipeF, List.set_cons_succ, List.set_cons_zero]
    rw [this]
    rfl)]
  rw [body_ret, leave_app (lower_nums _ _)]
theorem G_albumX (h : HallAt S x t) {d : D} (hx : F_need_rule [d] S = .exc "NoRule" S) : F_Hall_album [.ref x.h, d] S = .exc "NoRule" S := by
  have e : F_Hall_album [.ref x.h, d] S = leaveR S (bodyRes (b_Hall_album [some (.ref x.h), some d, none] S)) := rfl
  rw [e]
  unfold b_Hall_album
  rw [sq_exx (S1 := S) (c := "NoRule") (by simp [hx])]
  have k : KeptS S S := ⟨Nat.le_refl _, fun i o _ h => .inl h⟩
  simp only [body_exc, leaveR, if_pos k]
  simp
end
/-! ### Hall() -/
def newIx (n : Nat) : HIx := ⟨n, n + 2, fun _ => 0, fun a => if a = 0 then n + 1 else n + 3⟩
theorem G_make (S : Sto) (fr : Fr) : ∃ S', eMake F_Hall_init fr S = .ok (.ref S.length) S' ∧ HallAt S' (newIx S.length) ⟨[], []⟩ ∧ S' = S ++ [hallO (newIx S.length), .lst [], .dP [], .lst []] := by
  refine ⟨S ++ [hallO (newIx S.length), .lst [], .dP [], .lst []], ?_, ?_, rfl⟩
  · have e : F_Hall_init [.ref S.length] (S ++ [.ins []]) = .ok .non (S ++ [hallO (newIx S.length), .lst [], .dP [], .lst []]) := by
      show bodyRes (b_Hall_init [some (.ref S.length)] (S ++ [.ins []])) = _
      unfold b_Hall_init
      have g1 : ∀ (o : O) (os : Sto), (S ++ o :: os)[S.length]? = some o := fun o os => by simp
      have f1 : sFldS "rows" (eNewL aNil) (eVar 0) [some (.ref S.length)] (S ++ [.ins []]) = .nx [some (.ref S.length)] (S ++ [.ins [("rows", .ref (S.length + 1))], .lst []]) := by
        simp [sFldS, sz, g1, putA, List.set_append_right]
      have f2 : sFldS "by" eNewP (eVar 0) [some (.ref S.length)] (S ++ [.ins [("rows", .ref (S.length + 1))], .lst []]) = .nx [some (.ref S.length)] (S ++ [.ins [("rows", .ref (S.length + 1)), ("by", .ref (S.length + 2))], .lst [], .dP []]) := by
        have hp : putA ("by" : Str) (D.ref (S.length + 2)) ([("rows", .ref (S.length + 1))] : List (Str × D)) = ([("rows", .ref (S.length + 1)), ("by", .ref (S.length + 2))] : List (Str × D)) := rfl
        simp [sFldS, eNewP, g1, hp, List.set_append_right]
      have f3 : sFldS "past" (eNewL aNil) (eVar 0) [some (.ref S.length)] (S ++ [.ins [("rows", .ref (S.length + 1)), ("by", .ref (S.length + 2))], .lst [], .dP []]) = .nx [some (.ref S.length)] (S ++ [.ins [("rows", .ref (S.length + 1)), ("by", .ref (S.length + 2)), ("past", .ref (S.length + 3))], .lst [], .dP [], .lst []]) := by
        have hp : putA ("past" : Str) (D.ref (S.length + 3)) ([("rows", .ref (S.length + 1)), ("by", .ref (S.length + 2))] : List (Str × D)) = ([("rows", .ref (S.length + 1)), ("by", .ref (S.length + 2)), ("past", .ref (S.length + 3))] : List (Str × D)) := rfl
        simp [sFldS, sz, g1, hp, List.set_append_right]
      rw [sq_nx f1, sq_nx f2, f3]
      rfl
    simp only [eMake, e]
  · have g : ∀ (k : Nat) (o : O), [hallO (newIx S.length), .lst [], .dP [], .lst []][k]? = some o → (S ++ [hallO (newIx S.length), .lst [], .dP [], .lst []])[S.length + k]? = some o := fun k o hk => by
      rw [List.getElem?_append_right (by omega)]; simpa using hk
    refine ⟨g 0 _ rfl, g 2 _ rfl, g 1 _ rfl, g 3 _ rfl, fun i r h => by simp at h, fun i r h => by simp at h, fun i r h => by simp at h, fun i j h => by simp [HSt.n] at h, fun a b ha hb hab => ?_⟩
    simp [HSt.n] at ha hb
    simp only [newIx] at hab
    split at hab <;> split at hab <;> omega
end Py
set_option maxRecDepth 100000
set_option maxHeartbeats 1000000
namespace Py
open PySem PySem.Spec PyProof.Rows L2
/-! ### a hall behind the draws -/
structure HA (R : Sto) (x : HIx) (t : HSt) : Prop where
  h0 : HallAt (Tn 0 R) x t
  z : ¬ own x t.n 0
theorem HA.at {R : Sto} {x : HIx} {t : HSt} (h : HA R x t) (n : Nat) : HallAt (Tn n R) x t := h.h0.congr fun i o => by
  cases i with
  | zero => exact absurd o h.z
  | succ i => rfl
theorem HA.of {n : Nat} {R : Sto} {x : HIx} {t : HSt} (h : HallAt (Tn n R) x t) (z : ¬ own x t.n 0) : HA R x t :=
  ⟨h.congr fun i o => by
    cases i with
    | zero => exact absurd o z
    | succ i => rfl, z⟩
abbrev StR (R R' : Sto) (x x' : HIx) (n n' : Nat) : Prop := Step (Tn 0 R) (Tn 0 R') x x' n n'
theorem HA.lift {n : Nat} {R S' : Sto} {x x' : HIx} {t t' : HSt} (h : HA R x t) (h' : HallAt S' x' t') (s : Step (Tn n R) S' x x' t.n t'.n) : ∃ R', S' = Tn n R' ∧ HA R' x' t' ∧ StR R R' x x' t.n t'.n := by
  have h0 := s.old 0 (by simp) h.z
  cases S' with
  | nil => simp at h0
  | cons o R' =>
    simp at h0
    subst h0
    have z' : ¬ own x' t'.n 0 := fun o => by
      rcases s.new 0 o with o | o
      · exact h.z o
      · simp at o
    refine ⟨R', rfl, .of h' z', s.hh, ?_, fun i hi ho => ?_, fun i o => ?_⟩
    · have := s.len; simpa using this
    · cases i with
      | zero => rfl
      | succ i => exact s.old (i + 1) (by simpa using hi) ho
    · rcases s.new i o with o | o
      · exact .inl o
      · right; simpa using o
theorem StR.get {R R' : Sto} {x x' : HIx} {n n' i : Nat} {o : O} (s : StR R R' x x' n n') (h : R[i]? = some o) (hn : ¬ own x n (i + 1)) : R'[i]? = some o := by
  have hi := (List.getElem?_eq_some_iff.1 h).1
  have := s.old (i + 1) (by simpa using hi) hn
  simp at this
  rw [this, h]
theorem StR.nown {R R' : Sto} {x x' : HIx} {n n' i : Nat} (s : StR R R' x x' n n') (h : i < R.length) (hn : ¬ own x n (i + 1)) : ¬ own x' n' (i + 1) := fun o => by
  rcases s.new _ o with o | o
  · exact hn o
  · simp at o; omega
/-- something is laid behind -/
theorem HA.app {R : Sto} {x : HIx} {t : HSt} (h : HA R x t) (os : Sto) : HA (R ++ os) x t := ⟨h.h0.app os, h.z⟩
theorem HA.set {R : Sto} {x : HIx} {t : HSt} (h : HA R x t) {i : Nat} (hn : ¬ own x t.n (i + 1)) (o : O) : HA (R.set i o) x t :=
  ⟨h.h0.congr fun j oj => by
    cases j with
    | zero => rfl
    | succ j =>
      have : i ≠ j := fun e => hn (e ▸ oj)
      simp [List.getElem?_set_ne this], h.z⟩
theorem HA.lt {R : Sto} {x : HIx} {t : HSt} (h : HA R x t) {i : Nat} (hi : R.length ≤ i) : ¬ own x t.n (i + 1) := fun o => by
  have := h.h0.lt o
  simp at this
  omega
/-! ### saved -/
def rowSD (r : Row) : D := .tup [gr r.pic, .tup (strsD r.places), deedsD r.deeds, .tup (strsD (sortS r.marks)), .int r.stars, .int r.moment]
def savedD (t : HSt) : D := .tup [.tup (t.rows.map rowSD), .tup (t.past.map pastD)]
theorem pl_lower (k : Nat) : ∀ (n : Nat) (d : D), pl n d = true → d.lower k = true
  | 0, d, h => by simp [pl] at h
  | n + 1, .non, h => by simp only [D.lower]
  | n + 1, .int _, h => by simp only [D.lower]
  | n + 1, .str x, h => by simp only [D.lower]
  | n + 1, .tup ds, h => by
    simp only [D.lower]
    simp only [pl, List.all_eq_true] at h
    exact lowerL_of fun d hd => pl_lower k n d (h d hd)
  | n + 1, .lst ds, h => by
    simp only [D.lower]
    simp only [pl, List.all_eq_true] at h
    exact lowerL_of fun d hd => pl_lower k n d (h d hd)
  | n + 1, .bl b, h => by simp [pl] at h
  | n + 1, .fz b, h => by simp [pl] at h
  | n + 1, .ref b, h => by simp [pl] at h
  | n + 1, .adr b, h => by simp [pl] at h
  | n + 1, .ty b, h => by simp [pl] at h
theorem pl_tstrs (n : Nat) {zs : List Str} (h : okS zs = true) : pl (n + 2) (.tup (strsD zs)) = true := by
  simp only [pl, List.all_map, List.all_eq_true] at h ⊢
  intro z hz
  exact (List.all_eq_true.1 h) z hz
theorem pl_rowS (n : Nat) {r : Row} (h : RowOk r) : pl (n + 4) (rowSD r) = true := by
  have hm : okS (sortS r.marks) = true := by rw [okS_perm (sortS_perm _)]; exact h.om
  have h1 : pl (n + 3) (gr r.pic) = true := pl_gr n _
  have h2 : pl (n + 3) (deedsD r.deeds) = true := pl_deeds n _
  have h3 := pl_tstrs (n + 1) h.op
  have h4 := pl_tstrs (n + 1) hm
  have h5 : ∀ i : Int, pl (n + 3) (.int i) = true := fun i => rfl
  unfold rowSD
  rw [pl]
  simp only [List.all_cons, List.all_nil, h1, h2, h3, h4, h5, Bool.and_self]
theorem pl_past (n : Nat) (p : Nat × List Deed) : pl (n + 4) (pastD p) = true := by
  have h2 : pl (n + 3) (deedsD p.2) = true := pl_deeds n _
  unfold pastD
  rw [pl]
  simp only [List.all_cons, List.all_nil, h2, Bool.and_true]
  rfl
theorem pl_saved (n : Nat) {t : HSt} (h : ∀ r ∈ t.rows, RowOk r) : pl (n + 6) (savedD t) = true := by
  simp only [savedD, pl, List.all_cons, List.all_nil, List.all_map, Bool.and_true, Bool.and_eq_true, List.all_eq_true]
  exact ⟨fun r hr => pl_rowS n (h r hr), fun p _ => pl_past n p⟩
noncomputable abbrev lp_saved : MS := (sSeq (sSet 3 (eTup (aCons (e2 dgetS (eVar 2) (eC (.str "first"))) (aCons (eCall tupleD (aCons (e2 dgetS (eVar 2) (eC (.str "places"))) aNil)) (aCons (e2 dgetS (eVar 2) (eC (.str "deeds"))) (aCons (eCall tupleD (aCons (eCall sortedD (aCons (e2 dgetS (eVar 2) (eC (.str "marks"))) aNil)) aNil)) aNil))))))
    (sExpr (eMethL appendD (eVar 1) (aCons (e2 addD (eVar 3) (eTup (aCons (e2 dgetS (eVar 2) (eC (.str "stars"))) (aCons (e2 dgetS (eVar 2) (eC (.str "moment"))) aNil)))) aNil))))
section
variable {S : Sto} {x : HIx} {t : HSt}
theorem loop_saved (h : HallAt S x t) (hr : ∀ r ∈ t.rows, RowOk r) (hn : t.n ≤ 1000) : ∀ (k j : Nat), j + k = t.n → ∀ (o2 o3 : Option D), ∃ o2' o3',
    loopF ⟨tb t.n fun i => .ref (x.K i), some (x.L 0, tb t.n fun i => .ref (x.K i))⟩ (gN 2) lp_saved ((tb t.n fun i => D.ref (x.K i)).drop j) [some (.ref x.h), some (.ref S.length), o2, o3] (S ++ [.lst ((t.rows.take j).map rowSD)]) = .nx [some (.ref x.h), some (.ref S.length), o2', o3'] (S ++ [.lst (t.rows.map rowSD)])
  | 0, j, hj, o2, o3 => by
    refine ⟨o2, o3, ?_⟩
    rw [List.drop_of_length_le (by simp; omega), List.take_of_length_le (by show t.n ≤ j; omega)]
    rw [loopF_nilG]
    exact (h.app _).ir
  | k + 1, j, hj, o2, o3 => by
    have hjn : j < t.rows.length := by have : j < t.n := by omega
                                       exact this
    obtain ⟨r, hrj⟩ : ∃ r, t.rows[j]? = some r := ⟨_, List.getElem?_eq_getElem hjn⟩
    have hrm : r ∈ t.rows := List.mem_of_getElem? hrj
    have ro := hr r hrm
    have hS := h.app [.lst ((t.rows.take j).map rowSD)]
    have hk := hS.ik j r hrj
    obtain ⟨p2, p3, e⟩ := loop_saved h hr hn k (j + 1) (by omega) (some (.ref (x.K j))) (some (.tup [gr r.pic, .tup (strsD r.places), deedsD r.deeds, .tup (strsD (sortS r.marks))]))
    refine ⟨p2, p3, ?_⟩
    have htk : (t.rows.take (j + 1)).map rowSD = (t.rows.take j).map rowSD ++ [rowSD r] := by
      rw [List.take_succ, hrj]; simp
    have hlt : ((t.rows.take j).map rowSD).length < sz := by simp; unfold sz; omega
    rw [htk] at e
    generalize (t.rows.take j).map rowSD = acc at e hS hk hlt ⊢
    rw [List.drop_eq_getElem_cons (by simp; omega), tb_get, loopF_consG (fr1 := [some (.ref x.h), some (.ref S.length), some (.ref (x.K j)), o3]) (fr2 := [some (.ref x.h), some (.ref S.length), some (.ref (x.K j)), some (.tup [gr r.pic, .tup (strsD r.places), deedsD r.deeds, .tup (strsD (sortS r.marks))])]) (S2 := S ++ [.lst (acc ++ [rowSD r])]) _ rfl]
    · exact e
    · unfold lp_saved
      rw [sq_set (S1 := S ++ [.lst acc]) (d := .tup [gr r.pic, .tup (strsD r.places), deedsD r.deeds, .tup (strsD (sortS r.marks))]) (by
        simp [r_first _ hk, r_places _ hk, r_deeds _ hk, r_marks _ hk, sorted_ref ro.om (hS.im j r hrj), tupleD, seqOf, lstOf, hS.il j r hrj, sz])]
      simp only [List.set_cons_succ, List.set_cons_zero]
      have hg : (S ++ [O.lst acc])[S.length]? = some (.lst acc) := by simp
      have hls : lstOf (S ++ [O.lst acc]) (.ref S.length) = some acc := by simp only [lstOf, hg]
      have hadd : ∀ S, addD (.tup [gr r.pic, .tup (strsD r.places), deedsD r.deeds, .tup (strsD (sortS r.marks))]) (.tup [.int r.stars, .int r.moment]) S = .ok (rowSD r) S := fun S => add_tup (by simp)
      have hap : appendD (.ref S.length) [rowSD r] (S ++ [O.lst acc]) = .ok .non (S ++ [.lst (acc ++ [rowSD r])]) := by
        simp only [appendD, hg, if_pos hlt]
        simp [List.set_append_right]
      simp only [sExpr, eMethL, ap_var, List.getElem?_cons_succ, List.getElem?_cons_zero, Res.bind_ok, hls, ap_cons, ap_nil, ap_2, ap_c, ap_tup, r_stars _ hk, r_moment _ hk, List.length_cons, List.length_nil]
      simp [hadd, hap, sz]
    · exact hS.ir
theorem G_saved (h : HallAt S x t) (hr : ∀ r ∈ t.rows, RowOk r) (hn : t.n ≤ 1000) : F_Hall_saved [.ref x.h] S = .ok (savedD t) S := by
  have e : F_Hall_saved [.ref x.h] S = leaveR S (bodyRes (b_Hall_saved [some (.ref x.h), none, none, none] S)) := rfl
  rw [e]
  unfold b_Hall_saved
  rw [sq_set (S1 := S ++ [O.lst []]) (d := .ref S.length) (by simp [sz])]
  simp only [List.set_cons_succ, List.set_cons_zero]
  have hS := h.app [O.lst []]
  obtain ⟨o2, o3, f⟩ := loop_saved h hr hn t.n 0 (by omega) none none
  rw [sq_nx (show sFor _ (gN 2) lp_saved _ _ = _ by
    simp only [sFor, iSeq, ap_1, ap_var, List.getElem?_cons_succ, List.getElem?_cons_zero, Res.bind_ok, hS.rows, seqIts, hS.ir, Res.then_ok]
    simpa using f)]
  have hS2 := h.app [O.lst (t.rows.map rowSD)]
  have hg : (S ++ [O.lst (t.rows.map rowSD)])[S.length]? = some (.lst (t.rows.map rowSD)) := by simp
  rw [s_ret (S1 := S ++ [O.lst (t.rows.map rowSD)]) (d := savedD t) (by
    simp [tupleD, seqOf, lstOf, hg, hS2.past, hS2.ip, sz, savedD])]
  rw [body_ret, leave_app (pl_lower _ 12 _ (pl_saved 6 hr))]
end
/-! ### pictures drawn -/
theorem leave_TnL {n n' : Nat} {rest : Sto} {ds : List D} (h : ∀ d ∈ ds, d.lower (rest.length + 1) = true) : leaveR (Tn n rest) (.ok (.ref (rest.length + 1)) (Tn n' (rest ++ [.lst ds]))) = .ok (.lst ds) (Tn n' rest) := by
  have hd : dem 8 (rest.length + 1) (Tn n' (rest ++ [.lst ds])) (.ref (rest.length + 1)) = some (.lst ds) := by
    have hg : (Tn n' (rest ++ [O.lst ds]))[rest.length + 1]? = some (.lst ds) := by simp
    have hm : demL (dem 7 (rest.length + 1) (Tn n' (rest ++ [O.lst ds]))) ds = some ds := demL_same fun d hd => dem_lower 7 d (h d hd)
    simp only [dem, Nat.lt_irrefl, if_false, hg, hm, Option.map_some]
  simp only [leaveR, if_pos (kept_Tn n n' rest _), take_Tn]
  rw [show (Tn n rest).length = rest.length + 1 by simp, hd]
/-- a loop over numbers that keeps something, with a store that changes -/
theorem loop_inv {it : Its} (hi : it.guard = none) {g : MG} {body : MS} (I : Nat → Fr → Sto → Prop) : ∀ (xs : List D) (j : Nat), (∀ (k : Nat) x, xs[k]? = some x → ∀ fr S, I (j + k) fr S → ∃ fr1 fr' S', g x fr = some fr1 ∧ body fr1 S = .nx fr' S' ∧ I (j + k + 1) fr' S') → ∀ fr S, I j fr S → ∃ fr' S', loopF it g body xs fr S = .nx fr' S' ∧ I (j + xs.length) fr' S'
  | [], j, h, fr, S, hI => ⟨fr, S, by simp only [loopF, if_pos (show okG it S by unfold okG; rw [hi]; trivial)], by simpa using hI⟩
  | x :: xs, j, h, fr, S, hI => by
    obtain ⟨fr1, fr', S', h1, h2, h3⟩ := h 0 x rfl fr S (by simpa using hI)
    obtain ⟨fr'', S'', h4, h5⟩ := loop_inv hi I xs (j + 1) (fun k y hy fr S hI => by
      have := h (k + 1) y (by simpa using hy) fr S (by rw [show j + (k + 1) = j + 1 + k by omega]; exact hI)
      rw [show j + (k + 1) + 1 = j + 1 + k + 1 by omega] at this
      exact this) fr' S' (by simpa using h3)
    refine ⟨fr'', S'', ?_, by rw [show j + (x :: xs).length = j + 1 + xs.length by simp; omega]; exact h5⟩
    simp only [loopF, if_pos (show okG it S by unfold okG; rw [hi]; trivial), h1, h2, h4]
theorem for_rng_inv {f : MA} {i n : Nat} {body : MS} {S S0 : Sto} {fr : Fr} (I : Nat → Fr → Sto → Prop) (hf : f fr S0 = .ok [.int (n : Int)] S) (hn : n ≤ 1000000) (h0 : I 0 fr S) (h : ∀ k : Nat, k < n → ∀ fr S, I k fr S → ∃ fr' S', body (fr.set i (some (.int k))) S = .nx fr' S' ∧ I (k + 1) fr' S') :
    ∃ fr' S', sFor (iRng1' f) (gN i) body fr S0 = .nx fr' S' ∧ I n fr' S' := by
  have hr : iRng1' f fr S0 = .ok ⟨rngD 0 n, none⟩ S := by
    simp only [iRng1', hf, Res.bind_ok]
    have : (n : Int) < 4611686018427387904 := by omega
    simp [this]
  obtain ⟨fr', S', h1, h2⟩ := loop_inv (it := ⟨rngD 0 n, none⟩) rfl (g := gN i) (body := body) I (rngD 0 n) 0 (fun k x hx fr S hI => by
    simp only [rngD, List.getElem?_map] at hx
    by_cases c : k < n
    · simp [c] at hx
      subst hx
      obtain ⟨fr', S', a, b⟩ := h k c fr S (by simpa using hI)
      exact ⟨_, fr', S', rfl, by simpa using a, by simpa using b⟩
    · simp [c] at hx) fr S h0
  refine ⟨fr', S', by simp only [sFor, hr, Res.then_ok]; exact h1, ?_⟩
  simpa [rngD] using h2
theorem fnD_eq {n N : Nat} {b : MS} {ds : List D} {S : Sto} (h : ds.length = n) : fnD n N b ds S = leaveR S (bodyRes (b (startF N ds) S)) := by simp [fnD, h]
theorem newL_Tn (fr : Fr) {n : Nat} {R : Sto} : eNewL aNil fr (Tn n R) = .ok (.ref (R.length + 1)) (Tn n (R ++ [O.lst []])) := by
  have h : ([] : List D).length ≤ sz := Nat.zero_le _
  simp only [eNewL, aNil, Res.bind_ok, if_pos h, List.length_cons, List.cons_append]
open Classical in
theorem G_pictures (ns : List Int) (n many : Nat) (h0 : 0 < many) (hm : many ≤ 100) (hn : n < 700000) (R : Sto) : ∃ (ps : List Pic) (n' : Nat), 0 < ps.length ∧ ps.length ≤ many ∧ (∀ p ∈ ps, OkP p ∧ p.1.1 ≤ 4 ∧ p.1.2 ≤ 4) ∧ (ps.map gr).Nodup ∧ n' ≤ n + 68 * many ∧
    F_law_pictures [scr ns, .ref 0, .int many] (Tn n R) = .ok (.lst (ps.map gr)) (Tn n' R) := by
  have e : F_law_pictures [scr ns, .ref 0, .int many] (Tn n R) = leaveR (Tn n R) (bodyRes (b_law_pictures [some (scr ns), some (.ref 0), some (.int many), none, none, none] (Tn n R))) := by
    unfold F_law_pictures
    rw [fnD_eq (n := 3) rfl]
    rfl
  rw [e]
  unfold b_law_pictures
  rw [sq_set (S1 := Tn n (R ++ [O.lst []])) (d := .ref (R.length + 1)) (newL_Tn _)]
  simp only [List.set_cons_succ, List.set_cons_zero]
  obtain ⟨fr', S', f, ⟨ps, n', o4, o5, efr, eS, q0, q1, q2, q3, q4⟩⟩ := for_rng_inv (f := aCons (eVar 2) aNil) (i := 4) (n := many) (S0 := Tn n (R ++ [O.lst []])) (S := Tn n (R ++ [O.lst []])) (fr := [some (scr ns), some (.ref 0), some (.int many), some (.ref (R.length + 1)), none, none])
    (body := (sSeq (sSet 5 (eCall F_law_picture (aCons (eVar 0) (aCons (eVar 1) (aCons (eC (.int 4)) aNil)))))
    (sIf (tVal (e2 (inD true) (eVar 5) (eVar 3)))
    (sExpr (eMethL appendD (eVar 3) (aCons (eVar 5) aNil)))
    sNil)))
    (fun k fr S => ∃ (ps : List Pic) (n' : Nat) (o4 o5 : Option D), fr = [some (scr ns), some (.ref 0), some (.int many), some (.ref (R.length + 1)), o4, o5] ∧ S = Tn n' (R ++ [O.lst (ps.map gr)]) ∧ (0 < k → 0 < ps.length) ∧ ps.length ≤ k ∧ (∀ p ∈ ps, OkP p ∧ p.1.1 ≤ 4 ∧ p.1.2 ≤ 4) ∧ (ps.map gr).Nodup ∧ n' ≤ n + 68 * k)
    (by simp) (by omega) ⟨[], n, none, none, rfl, rfl, by simp, by simp, by simp, by simp, by omega⟩ (by
      rintro k hk fr S ⟨ps, n', o4, o5, rfl, rfl, q0, q1, q2, q3, q4⟩
      obtain ⟨s, g, n2, hs, hw, hh, hc, hn2, hp⟩ := G_picture ns n' 4 (by decide) (by decide) (by omega) (R ++ [O.lst (ps.map gr)])
      simp only [List.set_cons_succ, List.set_cons_zero]
      rw [sq_set (S1 := Tn n2 (R ++ [O.lst (ps.map gr)])) (d := gr (s, g)) (by simp; exact hp)]
      simp only [List.set_cons_succ, List.set_cons_zero]
      have hg : (Tn n2 (R ++ [O.lst (ps.map gr)]))[R.length + 1]? = some (.lst (ps.map gr)) := by simp
      have hin : inD true (gr (s, g)) (.ref (R.length + 1)) (Tn n2 (R ++ [O.lst (ps.map gr)])) = .ok (.bl (!decide (gr (s, g) ∈ ps.map gr))) (Tn n2 (R ++ [O.lst (ps.map gr)])) := by
        rw [inD_refR hg, in_plL (pl_gr 8 _) (by rw [List.all_map, List.all_eq_true]; intro p _; exact pl_gr 8 p)]
        rfl
      by_cases c : gr (s, g) ∈ ps.map gr
      · refine ⟨_, _, ?_, ⟨ps, n2, some (.int k), some (gr (s, g)), rfl, rfl, fun _ => ?_, by omega, q2, q3, by omega⟩⟩
        · simp [sIf, hin, sNil]
          simp at c
          intro h
          exact absurd c (by simpa using h)
        · cases ps with
          | nil => simp at c
          | cons => simp
      · refine ⟨_, _, ?_, ⟨ps ++ [(s, g)], n2, some (.int k), some (gr (s, g)), rfl, rfl, fun _ => by simp, by simp; omega, ?_, ?_, by omega⟩⟩
        · have ht : tVal (e2 (inD true) (eVar 5) (eVar 3)) [some (scr ns), some (.ref 0), some (.int many), some (.ref (R.length + 1)), some (.int k), some (gr (s, g))] (Tn n2 (R ++ [O.lst (ps.map gr)])) = .ok true (Tn n2 (R ++ [O.lst (ps.map gr)])) := by
            simp only [ap_val, ap_2, ap_var, List.getElem?_cons_succ, List.getElem?_cons_zero, Res.bind_ok, hin, decide_eq_false c]
            rfl
          simp only [sIf, ht, Res.then_ok, if_true]
          have hls : lstOf (Tn n2 (R ++ [O.lst (ps.map gr)])) (.ref (R.length + 1)) = some (ps.map gr) := by simp only [lstOf, hg]
          have hlt : (ps.map gr).length < sz := by simp; unfold sz; omega
          have hap : appendD (.ref (R.length + 1)) [gr (s, g)] (Tn n2 (R ++ [O.lst (ps.map gr)])) = .ok .non (Tn n2 (R ++ [O.lst ((ps ++ [(s, g)]).map gr)])) := by
            simp only [appendD, hg, if_pos hlt]
            simp [List.set_append_right]
          simp only [sExpr, eMethL, ap_var, List.getElem?_cons_succ, List.getElem?_cons_zero, Res.bind_ok, hls, ap_cons, ap_nil, hap, Res.then_ok]
        · intro p hp
          rcases List.mem_append.1 hp with hp | hp
          · exact q2 p hp
          · simp at hp; subst hp; exact ⟨⟨hs, hc⟩, hw, hh⟩
        · rw [List.map_append, List.nodup_append]
          refine ⟨q3, by simp, ?_⟩
          intro a ha b hb
          simp at hb
          subst hb
          exact fun e => c (e ▸ ha))
  subst efr eS
  refine ⟨ps, n', q0 h0, q1, q2, q3, q4, ?_⟩
  rw [sq_nx f, s_ret (S1 := Tn n' (R ++ [O.lst (ps.map gr)])) (d := .ref (R.length + 1)) (by simp)]
  rw [body_ret, leave_TnL]
  intro d hd
  obtain ⟨p, _, rfl⟩ := List.mem_map.1 hd
  exact pl_lower _ 12 _ (pl_gr 9 p)
end Py
set_option maxRecDepth 100000
set_option maxHeartbeats 1000000
namespace Py
open PySem PySem.Spec PyProof.Rows L2
/-! ### the first files -/
def namesL (pre w : Str) : List Str := w.cps.toList.map fun c => pre ++ ⟨#[c]⟩
theorem namesL_len (pre w : Str) : (namesL pre w).length = w.cps.toList.length := by simp [namesL]
theorem sx_at {w : Str} {k : Nat} (hk : k < w.cps.toList.length) (hw : w.length ≤ 1000) (S : Sto) : sxD (.str w) (.int k) S = .ok (.str ⟨#[w.cps.toList[k]]⟩) S := by
  have h : w.length ≤ sz := by unfold sz; omega
  have e : L2.atI w.cps.toList (k : Int) = some w.cps.toList[k] := atI_nat (List.getElem?_eq_getElem hk)
  simp only [sxD, if_pos h, e]
theorem comp_files {fr : Fr} {S : Sto} {a b v : Nat} {pre w : Str} {ps : List Pic} (hv : fr[v]? = some (some (.lst (ps.map gr)))) (hab : a ≠ b) (ha : a < fr.length) (hb : b < fr.length) (hl : ps.length ≤ w.cps.toList.length) (hp : pre.length ≤ 1000) (hw : w.length ≤ 1000) (hq : ps.length ≤ 1000) :
    eComp [a, b] (iEnum' (aCons (eVar v) aNil)) (gT 2 (gsC (gN a) (gsC (gN b) gs0))) tTrue (eTup (aCons (e2 addD (eC (.str pre)) (e2 sxD (eC (.str w)) (eVar a))) (aCons (eVar b) aNil))) fr S = .ok (.lst (((namesL pre w).zip ps).map fileD)) S := by
  have hi : iEnum' (aCons (eVar v) aNil) fr S = .ok ⟨enumD 0 (ps.map gr), none⟩ S := by simp [iEnum', hv]
  have hlen : (enumD 0 (ps.map gr)).length = ps.length := by rw [enumD_len]; simp
  have hwl : (wipeF fr [a, b]).length = fr.length := by simp [wipeF]
  rw [eComp_st hi (fun j => fileD (((namesL pre w).zip ps).getD j (pre, ((0, 0), fun _ => 0)))) (fun _ => S) rfl (by simp only [hlen]; unfold sz; omega) (fun j d hj => ?_) trivial]
  · simp only [hlen]
    congr 2
    apply List.ext_getElem
    · rw [List.length_map, List.length_range, List.length_map, List.length_zip, namesL_len]; omega
    · intro j h1 h2
      simp only [List.length_map] at h2
      rw [List.getElem_map, List.getElem_map, List.getElem_range, List.getD_eq_getElem?_getD, List.getElem?_eq_getElem h2]
      rfl
  · have hjl : j < ps.length := by
      have := (List.getElem?_eq_some_iff.1 hj).1
      simpa [hlen] using this
    have hj' : (ps.map gr)[j]? = some (gr ps[j]) := by simp [hjl]
    rw [enumD_get 0 _ j _ hj'] at hj
    cases hj
    have hwj : j < w.cps.toList.length := by omega
    refine ⟨trivial, ((wipeF fr [a, b]).set a (some (.int (j : Int)))).set b (some (gr ps[j])), by simp [gT, gsC, gN, gs0], rfl, ?_⟩
    have ga : (((wipeF fr [a, b]).set a (some (.int (j : Int)))).set b (some (gr ps[j])))[a]? = some (some (.int (j : Int))) := by
      rw [List.getElem?_set_ne (Ne.symm hab), List.getElem?_set_self (by rw [hwl]; exact ha)]
    have gb : (((wipeF fr [a, b]).set a (some (.int (j : Int)))).set b (some (gr ps[j])))[b]? = some (some (gr ps[j])) := by
      rw [List.getElem?_set_self (by simp [hwl]; exact hb)]
    have hadd : addD (.str pre) (.str ⟨#[w.cps.toList[j]]⟩) S = .ok (.str (pre ++ ⟨#[w.cps.toList[j]]⟩)) S := str_add (by
      have : (⟨#[w.cps.toList[j]]⟩ : Str).length = 1 := rfl
      omega)
    have hz : j < (((namesL pre w).zip ps)).length := by rw [List.length_zip, namesL_len]; omega
    have hfd : fileD (((namesL pre w).zip ps).getD j (pre, ((0, 0), fun _ => 0))) = .tup [.str (pre ++ ⟨#[w.cps.toList[j]]⟩), gr ps[j]] := by
      rw [List.getD_eq_getElem?_getD, List.getElem?_eq_getElem hz]
      simp [fileD, namesL]
    simp only [ap_tup, ap_cons, ap_nil, ap_2, ap_c, ap_var, ga, gb, Res.bind_ok, sx_at hwj hw, hadd, hfd, List.length_cons, List.length_nil]
    rw [if_pos (by unfold sz; omega)]
def newRow (m : Int) (f : Str × Pic) : Row := ⟨f.2, [f.1], [], [], 0, m⟩
theorem fold_new (m : Int) : ∀ (fs : List (Str × Pic)) (rs : List Row), (∀ f ∈ fs, idxP rs f.2 = none) → (fs.map fun f => gr f.2).Nodup → (∀ f ∈ fs, OkP f.2) → fs.foldl (addFile m) rs = rs ++ fs.map (newRow m)
  | [], rs, _, _, _ => by simp
  | f :: fs, rs, h, hd, ho => by
    have hf := h f (List.mem_cons_self ..)
    simp only [List.map_cons, List.nodup_cons] at hd
    rw [List.foldl_cons]
    have e : addFile m rs f = rs ++ [newRow m f] := by simp only [addFile, hf, newRow]
    rw [e, fold_new m fs _ (fun q hq => ?_) hd.2 (fun q hq => ho q (List.mem_cons_of_mem _ hq))]
    · simp
    · rw [idxP_app, h q (List.mem_cons_of_mem _ hq)]
      have hne : ¬ gkey f.2 = gkey q.2 := fun e => hd.1 (by
        rw [(gkey_iff (ho f (List.mem_cons_self ..)).1.2.1).1 e]
        exact List.mem_map_of_mem (f := fun f : Str × Pic => gr f.2) hq)
      exact if_neg hne
theorem take_new (m : Int) {fs : List (Str × Pic)} (hf : FilesOk fs) (hd : (fs.map fun f => gr f.2).Nodup) : takeRows m [] fs = fs.map (newRow m) := by
  have := fold_new m fs [] (fun f _ => rfl) hd hf.pc
  simpa [takeRows] using this
theorem newRow_ok (m : Int) {f : Str × Pic} (h1 : placeOkB f.1 = true) (h2 : OkP f.2) : RowOk (newRow m f) where
  fit := ⟨h2, rfl, f.2.1, rfl⟩
  om := rfl
  op := by simp [newRow, okS, (placeOk_iff.1 h1).2.2.2.2.1]
  lp := by simp [newRow]
theorem zip_sub {α β : Type} : ∀ (zs : List α) (ps : List β), ((zs.zip ps).map (·.1)).Sublist zs
  | [], ps => by simp
  | z :: zs, [] => by simp
  | z :: zs, p :: ps => by simpa using zip_sub zs ps
theorem FilesOk.zip {zs : List Str} {ps : List Pic} (h1 : zs.all placeOkB = true) (h2 : Rising zs) (h3 : zs.length ≤ 60) (h4 : ∀ p ∈ ps, OkP p) : FilesOk (zs.zip ps) where
  len := by simp; omega
  pl := fun f hf => (List.all_eq_true.1 h1) f.1 (List.of_mem_zip hf).1
  pc := fun f hf => h4 f.2 (List.of_mem_zip hf).2
  inc := by
    exact h2.sublist (zip_sub zs ps)
section
variable {R : Sto} {x : HIx} {t : HSt}
theorem HA.take (h : HA R x t) (n : Nat) {m : Int} (h0 : 0 ≤ m) (h9 : m ≤ 999) {fs : List (Str × Pic)} (hf : FilesOk fs) (hn : t.n ≤ 60) (hp : ∀ r ∈ t.rows, okS r.places = true) (hc : t.n + cntN t.rows fs ≤ 60) :
    ∃ R' x', F_Hall_take_in [.ref x.h, .int m, .tup (fs.map fileD)] (Tn n R) = .ok (toldD (placesL t) (placesL (takeSt t m fs))) (Tn n R') ∧ HA R' x' (takeSt t m fs) ∧ StR R R' x x' t.n (takeSt t m fs).n := by
  obtain ⟨S', x', e, h1, s⟩ := G_take (h.at n) h0 h9 hf hn hp hc
  obtain ⟨R', rfl, a, b⟩ := h.lift h1 s
  exact ⟨R', x', e, a, b⟩
theorem HA.start (h : HA R x ⟨[], []⟩) (n : Nat) {m : Int} (h0 : 0 ≤ m) (h9 : m ≤ 999) {fs : List (Str × Pic)} (hf : FilesOk fs) (hd : (fs.map fun f => gr f.2).Nodup) :
    ∃ R' x', F_Hall_take_in [.ref x.h, .int m, .tup (fs.map fileD)] (Tn n R) = .ok (toldD [] (fs.map fun f => [f.1])) (Tn n R') ∧ HA R' x' ⟨fs.map (newRow m), []⟩ ∧ StR R R' x x' 0 fs.length := by
  have hl := hf.len
  have hc := cntN_le [] fs
  obtain ⟨R', x', e, a, b⟩ := h.take n h0 h9 hf (by simp [HSt.n]) (by simp) (by simp [HSt.n]; omega)
  have hk : takeSt ⟨[], []⟩ m fs = ⟨fs.map (newRow m), []⟩ := by simp only [takeSt, take_new m hf hd]
  rw [hk] at e a b
  refine ⟨R', x', ?_, a, ?_⟩
  · rw [e]
    congr 2
    simp [placesL, newRow, Function.comp_def]
  · simpa [HSt.n] using b
end
theorem fr_new (ns : List Int) (n : Nat) (R : Sto) (fr : Fr) : ∃ R' x, eMake F_Hall_init fr (Tn n R) = .ok (.ref x.h) (Tn n R') ∧ HA R' x ⟨[], []⟩ ∧ R' = R ++ [hallO x, .lst [], .dP [], .lst []] ∧ x = newIx (R.length + 1) := by
  obtain ⟨S', e, h, hS⟩ := G_make (Tn n R) fr
  have hlen : (Tn n R).length = R.length + 1 := by simp
  rw [hlen] at h hS e
  subst hS
  refine ⟨R ++ [hallO (newIx (R.length + 1)), .lst [], .dP [], .lst []], newIx (R.length + 1), e, .of (n := n) h ?_, rfl, rfl⟩
  rintro (h | h | ⟨j, hj, h⟩ | ⟨a, ha, h⟩)
  · simp [newIx] at h
  · simp [newIx] at h
  · simp [HSt.n] at hj
  · simp only [newIx] at h
    split at h <;> omega
end Py
set_option maxRecDepth 100000
set_option maxHeartbeats 1000000
namespace Py
open PySem PySem.Spec PyProof.Rows L2
/-! ### what the hall is asked -/
def askW (w : Str → Option D) : Res D → Res D
  | .ok d S => .ok d S
  | .exc c S => (match w c with | some d => .ok d S | none => .bad)
  | .bad => .bad
@[simp] theorem askW_ok (w : Str → Option D) (d : D) (S : Sto) : askW w (.ok d S) = .ok d S := id rfl
theorem askW_exc {L : List (Str × Nat)} {c : Str} {j : Nat} (h : L.lookup c = some j) (S : Sto) : askW (wOf L) (.exc c S) = .ok (refusedD j) S := by simp only [askW, wOf, h, Option.map_some]
def toRS : Res D → RS
  | .ok d S => .ret d S
  | .exc c S => .exc c S
  | .bad => .bad
theorem ask_end {w : Str → Option D} {f : MS} {fr : Fr} {S : Sto} {r : Res D} (h : f fr S = toRS r) : bodyRes (sTry w f fr S) = askW w r := by
  cases r with
  | ok d S' => simp [sTry, h, toRS, askW]
  | exc c S' => simp only [sTry, h, toRS, askW]; cases w c <;> rfl
  | bad => simp [sTry, h, toRS, askW, bodyRes]
theorem sq_retC {e : ME} {g : MS} {fr : Fr} {S : Sto} {r : Res D} (h : e fr S = r) : sSeq (sRet e) g fr S = toRS r := by
  subst h
  cases h : e fr S <;> simp [sSeq, sRet, h, toRS, Res.then]
theorem s_retC {e : ME} {fr : Fr} {S : Sto} {r : Res D} (h : e fr S = r) : sRet e fr S = toRS r := by
  subst h
  cases h : e fr S <;> simp [sRet, h, toRS, Res.then]
theorem ne_w {a b : Str} (h : (PyData.strOk a && PyData.strOk b && !(a == b)) = true) (S : Sto) : eqD false (.str a) (.str b) S = .ok (.bl false) S := by
  simp only [Bool.and_eq_true, Bool.not_eq_true'] at h
  exact eqD_str h.1.1 h.1.2 h.2
theorem eq_w {a : Str} (h : PyData.strOk a = true) (S : Sto) : eqD false (.str a) (.str a) S = .ok (.bl true) S := eqD_str h h (by simp)
theorem sq_ask {b a : Str} {f g : MS} {fr : Fr} {S : Sto} (h1 : fr[1]? = some (some (.str a))) (h : (PyData.strOk a && PyData.strOk b && !(a == b)) = true) : sSeq (sIf (tVal (e2 (eqD false) (eVar 1) (eC (.str b)))) f sNil) g fr S = g fr S :=
  sq_f (by simp [h1, ne_w h])
theorem sq_askT {a : Str} {f g : MS} {fr : Fr} {S : Sto} (h1 : fr[1]? = some (some (.str a))) (h : PyData.strOk a = true) : sSeq (sIf (tVal (e2 (eqD false) (eVar 1) (eC (.str a)))) f sNil) g fr S = sSeq f g fr S :=
  sq_t (by simp [h1, eq_w h])
theorem si_t {c : MT} {f g : MS} {fr : Fr} {S S1 : Sto} (h : c fr S = .ok true S1) : sIf c f g fr S = f fr S1 := by simp only [sIf, h, Res.then_ok, if_true]
theorem si_f {c : MT} {f g : MS} {fr : Fr} {S S1 : Sto} (h : c fr S = .ok false S1) : sIf c f g fr S = g fr S1 := by simp [sIf, h]
theorem ok_refused : PyData.strOk "refused" = true := by decide +kernel
theorem pl_refused (n j : Nat) : pl (n + 2) (refusedD j) = true := by simp [refusedD, pl, ok_refused]
theorem eq_refused (neg : Bool) (j : Nat) (S : Sto) : eqD neg (refusedD j) (refusedD j) S = .ok (.bl (!neg)) S := by
  rw [eqD_pl (pl_refused 10 j) (pl_refused 10 j)]
  cases neg <;> simp
theorem eq_self {d : D} (h : pl 12 d = true) (neg : Bool) (S : Sto) : eqD neg d d S = .ok (.bl (!neg)) S := by
  rw [eqD_pl h h]
  cases neg <;> simp
theorem eComp_fst {vs : List Nat} {fi : MI} {g : MG} {c : MT} {e : ME} {fr : Fr} {S S1 : Sto} {it : Its} (hf : fi fr S = .ok it S1) (q : Nat → Bool) (φ : Nat → D) (ho : okG it S1) (hl : it.items.length ≤ 1000)
    (h : ∀ (j : Nat) (d : D), it.items[j]? = some d → ∃ fr1, g d (wipeF fr vs) = some fr1 ∧ c fr1 S1 = .ok (q j) S1 ∧ e fr1 S1 = .ok (φ j) S1) : eComp vs fi g c e fr S = .ok (.lst (((List.range it.items.length).filter q).map φ)) S1 := by
  unfold eComp
  rw [hf, Res.bind_ok]
  have := compL_fst (it := it) (g := g) (c := c) (e := e) (fr := wipeF fr vs) q φ (fun _ => S1) it.items 0 [] (fun j d hj => by
    obtain ⟨fr1, a, b, k⟩ := h j d hj
    exact ⟨ho, fr1, a, by simpa using b, by simpa using k⟩) ho (by simp; unfold sz; omega)
  rw [this]
  simp
/-! ### lists of the law's own -/
theorem rem_strs {S : Sto} {k : Nat} {ms : List Str} {w : Str} (hk : S[k]? = some (.lst (strsD ms))) (hm : okS ms = true) (hw : PyData.strOk w = true) (c : w ∈ ms) : removeD (.ref k) [.str w] S = .ok .non (S.set k (.lst (strsD (ms.erase w)))) := by
  have h1 : toPs (toP 11 S) (strsD ms) = some (ms.map .str) := toPs_strs hm
  have h2 : dP S (.str w) = some (.str w) := by show toP 12 S (.str w) = _; simp [toP, hw]
  have h3 : (ms.map PyData.str).any (fun z => PyData.eqv z (.str w)) = true := by
    rw [List.any_map, List.any_eq_true]
    exact ⟨w, c, by simp [PyData.eqv]⟩
  simp only [removeD, hk, h1, h2, h3, if_true, erase_find hw hm]
theorem app_lst {S : Sto} {k : Nat} {ds : List D} {d : D} (hk : S[k]? = some (.lst ds)) (hl : ds.length < 1000) : appendD (.ref k) [d] S = .ok .non (S.set k (.lst (ds ++ [d]))) := by
  have : ds.length < sz := by unfold sz; omega
  simp only [appendD, hk, if_pos this]
theorem ls_ref {S : Sto} {k : Nat} {ds : List D} (hk : S[k]? = some (.lst ds)) : lstOf S (.ref k) = some ds := by simp only [lstOf, hk]
theorem okS_toggle {w : Str} {ms : List Str} (hw : PyData.strOk w = true) (h : okS ms = true) : okS (toggle w ms) = true := by
  unfold toggle
  split
  · exact List.all_eq_true.2 fun z hz => List.all_eq_true.1 h z (List.mem_of_mem_erase hz)
  · simp only [okS, List.all_append, List.all_cons, List.all_nil, Bool.and_true, Bool.and_eq_true]
    exact ⟨h, hw⟩
theorem toggle_len (w : Str) (ms : List Str) : (toggle w ms).length ≤ ms.length + 1 := by
  unfold toggle
  split
  · have := List.length_erase_le (a := w) (l := ms); omega
  · simp
theorem ask_len {f g : MA} : True := trivial
section
variable {R : Sto} {x : HIx} {t : HSt} {i : Nat} {r : Row}
theorem HA.mark (h : HA R x t) (n : Nat) (hr : t.rows[i]? = some r) {w : Str} (hw : wordOkB w = true) (hm : okS r.marks = true) (hml : r.marks.length < 1000) :
    ∃ R', F_Hall_mark [.ref x.h, .int i, .str w] (Tn n R) = .ok (.bl (!decide (w ∈ r.marks))) (Tn n R') ∧ HA R' x (t.setR i { r with marks := toggle w r.marks }) ∧ StR R R' x x t.n t.n := by
  obtain ⟨a, b, c, d⟩ := wordOk_iff.1 hw
  obtain ⟨S', e, h1, s⟩ := G_mark (h.at n) hr b a c d hm hml
  have hn : (t.setR i { r with marks := toggle w r.marks }).n = t.n := by simp [HSt.n]
  obtain ⟨R', rfl, p, q⟩ := h.lift h1 (by rw [hn]; exact s)
  rw [hn] at q
  exact ⟨R', e, p, q⟩
theorem HA.star (h : HA R x t) (n : Nat) (hr : t.rows[i]? = some r) {k : Int} (h0 : 0 ≤ k) (h5 : k ≤ 5) :
    ∃ R', F_Hall_star [.ref x.h, .int i, .int k] (Tn n R) = .ok (.int r.stars) (Tn n R') ∧ HA R' x (t.setR i { r with stars := k }) ∧ StR R R' x x t.n t.n := by
  obtain ⟨S', e, h1, s⟩ := G_star (h.at n) hr h0 h5
  have hn : (t.setR i { r with stars := k }).n = t.n := by simp [HSt.n]
  obtain ⟨R', rfl, p, q⟩ := h.lift h1 (by rw [hn]; exact s)
  rw [hn] at q
  exact ⟨R', e, p, q⟩
end
/-! refusals leave all as it was -/
section
variable {S : Sto} {x : HIx} {t : HSt}
theorem G_markX (h : HallAt S x t) {d e : D} (hd : Ty S d) (hw : isW 0 ((t.n : Int) - 1) d = false) : F_Hall_mark [.ref x.h, d, e] S = .exc "NoNumber" S := by
  show bodyRes (b_Hall_mark [some (.ref x.h), some d, some e, none] S) = _
  unfold b_Hall_mark
  rw [sq_setx (S1 := S) (c := "NoNumber") (need_exc h hd hw rfl rfl)]
  rfl
theorem G_starX (h : HallAt S x t) {d e : D} (hd : Ty S d) (hw : isW 0 ((t.n : Int) - 1) d = false) : F_Hall_star [.ref x.h, d, e] S = .exc "NoNumber" S := by
  show bodyRes (b_Hall_star [some (.ref x.h), some d, some e, none, none] S) = _
  unfold b_Hall_star
  rw [sq_setx (S1 := S) (c := "NoNumber") (need_exc h hd hw rfl rfl)]
  rfl
theorem G_markW (h : HallAt S x t) {i : Nat} (hi : i < t.n) {e : D} (he : F_is_word [e] S = .ok (.bl false) S) : F_Hall_mark [.ref x.h, .int i, e] S = .exc "NoWord" S := by
  show bodyRes (b_Hall_mark [some (.ref x.h), some (.int i), some e, none] S) = _
  unfold b_Hall_mark
  rw [sq_set (S1 := S) (d := .ref (x.K i)) (need_eq h hi rfl rfl)]
  simp only [List.set_cons_succ, List.set_cons_zero]
  rw [sq_t (S1 := S) (by simp [he])]
  simp [sSeq, sRaise]
theorem G_starW (h : HallAt S x t) {i : Nat} (hi : i < t.n) {e : D} (ht : Ty S e) (he : isW 0 5 e = false) : F_Hall_star [.ref x.h, .int i, e] S = .exc "NoStars" S := by
  show bodyRes (b_Hall_star [some (.ref x.h), some (.int i), some e, none, none] S) = _
  unfold b_Hall_star
  rw [sq_set (S1 := S) (d := .ref (x.K i)) (need_eq h hi rfl rfl)]
  simp only [List.set_cons_succ, List.set_cons_zero]
  have hw : F_is_whole [e, .int 0, .int 5] S = .ok (.bl false) S := by rw [F_whole ht, he]
  rw [sq_t (S1 := S) (by simp [hw])]
  simp [sSeq, sRaise]
end
end Py
set_option maxRecDepth 100000
set_option maxHeartbeats 1000000
namespace Py
open PySem PySem.Spec PyProof.Rows L2
/-! ### rows as tables -/
theorem idxP_get {p : Pic} : ∀ {rs : List Row} {k : Nat} {r : Row}, rs[k]? = some r → gkey r.pic = gkey p → (∀ j q, j < k → rs[j]? = some q → gkey q.pic ≠ gkey p) → idxP rs p = some k
  | [], k, r, h, _, _ => by simp at h
  | q :: rs, 0, r, h, hp, _ => by
    simp at h
    subst h
    simp only [idxP, if_pos hp]
  | q :: rs, k + 1, r, h, hp, hn => by
    have h0 := hn 0 q (by omega) rfl
    simp only [idxP, if_neg h0]
    rw [idxP_get (rs := rs) (k := k) (by simpa using h) hp fun j q hj hq => hn (j + 1) q (by omega) (by simpa using hq)]
    rfl
theorem idxP_none {p : Pic} : ∀ {rs : List Row}, (∀ r ∈ rs, gkey r.pic ≠ gkey p) → idxP rs p = none
  | [], _ => rfl
  | r :: rs, h => by
    simp only [idxP, if_neg (h r (List.mem_cons_self ..)), idxP_none fun q hq => h q (List.mem_cons_of_mem _ hq)]
    rfl
theorem idxP_tb {N : Nat} {ρ : Nat → Row} (inj : ∀ i j, i < N → j < N → gkey (ρ i).pic = gkey (ρ j).pic → i = j) {k : Nat} (hk : k < N) {p : Pic} (hp : gkey (ρ k).pic = gkey p) : idxP (tb N ρ) p = some k := by
  refine idxP_get (r := ρ k) (by rw [tb_get?, if_pos hk]) hp fun j q hj hq e => ?_
  rw [tb_get?, if_pos (by omega)] at hq
  cases hq
  have := inj j k (by omega) hk (e.trans hp.symm)
  omega
theorem tb_setA {α : Type} {N k : Nat} {f : Nat → α} {a : α} : (tb N f).set k a = tb N (fun j => if j = k then a else f j) := by
  apply List.ext_getElem?
  intro j
  rw [List.getElem?_set, tb_get?, tb_get?]
  by_cases c : k = j
  · subst c
    by_cases c2 : k < N <;> simp [c2]
  · have c' : ¬ j = k := fun e => c e.symm
    simp [c, c']
theorem addFile_tb {m : Int} {N : Nat} {ρ : Nat → Row} (inj : ∀ i j, i < N → j < N → gkey (ρ i).pic = gkey (ρ j).pic → i = j) {k : Nat} (hk : k < N) {f : Str × Pic} (hp : gkey (ρ k).pic = gkey f.2) :
    addFile m (tb N ρ) f = tb N (fun j => if j = k then { ρ k with places := (ρ k).places ++ [f.1] } else ρ j) := by
  simp only [addFile, idxP_tb inj hk hp, tb_get?, if_pos hk]
  rw [tb_setA]
theorem tb_append {α : Type} {a b : Nat} {f g : Nat → α} : tb a f ++ tb b g = tb (a + b) (fun k => if k < a then f k else g (k - a)) := by
  apply List.ext_getElem?
  intro j
  rw [List.getElem?_append, tb_get?, tb_get?, tb_get?]
  by_cases c : j < a
  · simp [c]; omega
  · simp [c]
    by_cases c2 : j - a < b
    · have : j < a + b := by omega
      simp [c2, this]
    · have : ¬ j < a + b := by omega
      simp [c2, this]
/-! ### all new -/
theorem takeRows_new (m : Int) {rs : List Row} {fs : List (Str × Pic)} (h : ∀ f ∈ fs, idxP rs f.2 = none) (hd : (fs.map fun f => gr f.2).Nodup) (ho : ∀ f ∈ fs, OkP f.2) : takeRows m rs fs = rs.map clr ++ fs.map (newRow m) :=
  fold_new m fs _ (fun f hf => by rw [idxP_map (φ := clr) (fun r => rfl)]; exact h f hf) hd ho
theorem cntN_new {rs : List Row} {fs : List (Str × Pic)} (h : ∀ f ∈ fs, idxP rs f.2 = none) (hd : (fs.map fun f => gr f.2).Nodup) (ho : ∀ f ∈ fs, OkP f.2) : cntN rs fs = fs.length := by
  have h1 := takeRows_len 0 rs fs
  rw [takeRows_new 0 h hd ho] at h1
  simp at h1
  omega
theorem HA.takeFull {R : Sto} {x : HIx} {t : HSt} (h : HA R x t) (n : Nat) {m : Int} (h0 : 0 ≤ m) (h9 : m ≤ 999) {fs : List (Str × Pic)} (hf : FilesOk fs) (hn : t.n ≤ 60) (hc : 60 < t.n + cntN t.rows fs) :
    ∃ R', F_Hall_take_in [.ref x.h, .int m, .tup (fs.map fileD)] (Tn n R) = .exc "Full" (Tn n R') ∧ HA R' x t ∧ StR R R' x x t.n t.n := by
  obtain ⟨S', e, h1, s⟩ := G_takeFull (h.at n) h0 h9 hf hn hc
  obtain ⟨R', rfl, a, b⟩ := h.lift h1 s
  exact ⟨R', e, a, b⟩
/-! ### what is told, of tables -/
theorem told_tb {n N : Nat} {f g : Nat → List Str} (h : n ≤ N) : toldD (tb n f) (tb N g) = .tup [numsD ((List.range (N - n)).map (n + ·)), numsD ((List.range n).filter fun k => !decide (f k = []) && (!decide (g k = []) && !decide (f k = g k))), numsD ((List.range n).filter fun k => !decide (f k = []) && decide (g k = [])), numsD ((List.range n).filter fun k => decide (f k = []) && !decide (g k = []))] := by
  have g1 : ∀ k ∈ List.range n, (tb n f).getD k [] = f k := fun k hk => by
    have := List.mem_range.1 hk
    rw [List.getD_eq_getElem?_getD, tb_get?, if_pos this]; rfl
  have g2 : ∀ k ∈ List.range n, (tb N g).getD k [] = g k := fun k hk => by
    have := List.mem_range.1 hk
    rw [List.getD_eq_getElem?_getD, tb_get?, if_pos (by omega)]; rfl
  simp only [toldD, movedK, lostK, foundK, tb_len]
  rw [List.filter_congr (q := fun k => !decide (f k = []) && (!decide (g k = []) && !decide (f k = g k))) fun k hk => by rw [g1 k hk, g2 k hk],
    List.filter_congr (p := fun k => !decide ((tb n f).getD k [] = []) && decide ((tb N g).getD k [] = [])) (q := fun k => !decide (f k = []) && decide (g k = [])) fun k hk => by rw [g1 k hk, g2 k hk],
    List.filter_congr (p := fun k => decide ((tb n f).getD k [] = []) && !decide ((tb N g).getD k [] = [])) (q := fun k => decide (f k = []) && !decide (g k = [])) fun k hk => by rw [g1 k hk, g2 k hk]]
theorem filter_none {p : Nat → Bool} {n : Nat} (h : ∀ k, k < n → p k = false) : (List.range n).filter p = [] := by
  rw [List.filter_eq_nil_iff]
  intro k hk
  rw [h k (List.mem_range.1 hk)]
  simp
theorem filter_all {p : Nat → Bool} {n : Nat} (h : ∀ k, k < n → p k = true) : (List.range n).filter p = List.range n := by
  rw [List.filter_eq_self]
  intro k hk
  exact h k (List.mem_range.1 hk)
theorem filter_ge {p : Nat → Bool} {n a : Nat} (h : ∀ k, k < n → p k = decide (a ≤ k)) : (List.range n).filter p = (List.range (n - a)).map (a + ·) := by
  induction n with
  | zero => simp
  | succ n ih =>
    rw [List.range_succ, List.filter_append, ih fun k hk => h k (by omega)]
    by_cases c : a ≤ n
    · have e : n + 1 - a = (n - a) + 1 := by omega
      rw [List.filter_cons_of_pos (by rw [h n (by omega)]; simpa using c), e, List.range_succ]
      simp
      omega
    · have e : n + 1 - a = 0 := by omega
      have e2 : n - a = 0 := by omega
      rw [List.filter_cons_of_neg (by rw [h n (by omega)]; simpa using c), e, e2]
      simp
theorem filter_lt {p : Nat → Bool} {n a : Nat} (ha : a ≤ n) (h : ∀ k, k < n → p k = decide (k < a)) : (List.range n).filter p = List.range a := by
  induction n with
  | zero => simp; omega
  | succ n ih =>
    rw [List.range_succ, List.filter_append]
    by_cases c : a ≤ n
    · rw [ih c fun k hk => h k (by omega), List.filter_cons_of_neg (by rw [h n (by omega)]; simp; omega)]
      simp
    · have : a = n + 1 := by omega
      subst this
      rw [filter_all fun k hk => by rw [h k (by omega)]; simp; omega, List.filter_cons_of_pos (by rw [h n (by omega)]; simp), List.range_succ]
      simp
theorem filter_mid {p : Nat → Bool} {n a b : Nat} (hb : b ≤ n) (h : ∀ k, k < n → p k = (decide (a ≤ k) && decide (k < b))) : (List.range n).filter p = (List.range (b - a)).map (a + ·) := by
  have e : (List.range n).filter p = ((List.range n).filter fun k => decide (k < b)).filter fun k => decide (a ≤ k) := by
    rw [List.filter_filter]
    exact List.filter_congr fun k hk => h k (List.mem_range.1 hk)
  rw [e, filter_lt hb (fun k _ => rfl), filter_ge fun k _ => rfl]
theorem nums_rng (a n : Nat) : numsD ((List.range n).map (a + ·)) = .lst (rngD (a : Int) n) := by rw [rngD_shift]
theorem nums_rng0 (n : Nat) : numsD (List.range n) = .lst (rngD 0 n) := by
  simp [numsD, rngD]
theorem pl_nums (n : Nat) (ks : List Nat) : pl (n + 2) (numsD ks) = true := by
  simp only [pl, List.all_map, List.all_eq_true]
  intro j _
  rfl
theorem pl_told (n : Nat) (as bs : List (List Str)) : pl (n + 3) (toldD as bs) = true := by
  unfold toldD
  rw [pl]
  simp only [List.all_cons, List.all_nil, pl_nums, Bool.and_self]
theorem r1_eq {fr : Fr} {S : Sto} {f : ME} {b : Nat} (h : f fr S = .ok (.int (b : Int)) S) (hb : b ≤ 1000000) : eLstR (r1 f) fr S = .ok (numsD (List.range b)) S := by
  have : r1 f fr S = .ok (((0 : Nat) : Int), (b : Int)) S := by simp [r1, h]
  rw [lstR_eq this (by omega) hb, nums_rng0]
  simp
theorem r2_eq {fr : Fr} {S : Sto} {f g : ME} {a b : Nat} (h : f fr S = .ok (.int (a : Int)) S) (h2 : g fr S = .ok (.int (b : Int)) S) (ha : a ≤ 1000000) (hb : b ≤ 1000000) : eLstR (r2 f g) fr S = .ok (numsD ((List.range (b - a)).map (a + ·))) S := by
  have : r2 f g fr S = .ok ((a : Int), (b : Int)) S := by simp [r2, h, h2]
  rw [lstR_eq this ha hb, nums_rng]
end Py
set_option maxRecDepth 100000
set_option maxHeartbeats 1000000
namespace Py
open PySem PySem.Spec PyProof.Rows L2
/-! ### files of pictures that are known -/
def plcFor (fs : List (Str × Pic)) (p : Pic) : List Str := (fs.filter fun f => decide (gkey f.2 = gkey p)).map (·.1)
theorem fold_known (m : Int) {N : Nat} : ∀ (fs : List (Str × Pic)) (ρ : Nat → Row), (∀ i j, i < N → j < N → gkey (ρ i).pic = gkey (ρ j).pic → i = j) → (∀ f ∈ fs, ∃ k, k < N ∧ gkey (ρ k).pic = gkey f.2) →
    fs.foldl (addFile m) (tb N ρ) = tb N fun j => { ρ j with places := (ρ j).places ++ plcFor fs (ρ j).pic }
  | [], ρ, inj, h => by simp [plcFor]
  | f :: fs, ρ, inj, h => by
    obtain ⟨k, hk, e⟩ := h f (List.mem_cons_self ..)
    rw [List.foldl_cons, addFile_tb inj hk e]
    have hp : ∀ j, (if j = k then { ρ k with places := (ρ k).places ++ [f.1] } else ρ j).pic = (ρ j).pic := fun j => by
      split
      · rename_i c; subst c; rfl
      · rfl
    rw [fold_known m fs _ (fun i j hi hj e => by rw [hp, hp] at e; exact inj i j hi hj e) (fun q hq => by
      obtain ⟨i, hi, ei⟩ := h q (List.mem_cons_of_mem _ hq)
      exact ⟨i, hi, by rw [hp]; exact ei⟩)]
    refine tb_congr fun j hj => ?_
    by_cases c : j = k
    · subst c
      simp [plcFor, e.symm]
    · have hne : ¬ gkey f.2 = gkey (ρ j).pic := fun e' => c (inj j k hj hk (e'.symm.trans e.symm))
      simp [c, plcFor, hne]
theorem take_known (m : Int) {N : Nat} {ρ : Nat → Row} {fs : List (Str × Pic)} (inj : ∀ i j, i < N → j < N → gkey (ρ i).pic = gkey (ρ j).pic → i = j) (h : ∀ f ∈ fs, ∃ k, k < N ∧ gkey (ρ k).pic = gkey f.2) :
    takeRows m (tb N ρ) fs = tb N fun j => { ρ j with places := plcFor fs (ρ j).pic } := by
  unfold takeRows
  rw [tb_map, fold_known m fs (fun j => clr (ρ j)) inj h]
  simp
theorem filter_one {n a : Nat} {p : Nat → Bool} (ha : a < n) (h : ∀ k, k < n → p k = decide (k = a)) : (List.range n).filter p = [a] := by
  have := filter_mid (p := p) (n := n) (a := a) (b := a + 1) (by omega) fun k hk => by
    rw [h k hk]
    by_cases c : k = a
    · subst c; simp
    · simp [c]; omega
  rw [this]
  simp
/-! ### the place of a picture in a list -/
theorem findP_at {q : PyData} : ∀ (ps : List PyData) (i j : Nat), (∀ k p, k < j → ps[k]? = some p → PyData.eqv p q = false) → (∃ p, ps[j]? = some p ∧ PyData.eqv p q = true) → findP q i ps = some (i + j)
  | [], i, j, _, ⟨p, h, _⟩ => by simp at h
  | p :: ps, i, 0, _, ⟨p', h, e⟩ => by
    simp at h
    subst h
    simp only [findP, e, if_true]
    rfl
  | p :: ps, i, j + 1, hn, ⟨p', h, e⟩ => by
    have h0 := hn 0 p (by omega) rfl
    simp only [findP, h0]
    have := findP_at ps (i + 1) j (fun k p hk hp => hn (k + 1) p (by omega) (by simpa using hp)) ⟨p', by simpa using h, e⟩
    rw [show i + (j + 1) = i + 1 + j by omega]
    simpa using this
theorem toPs_at {f : D → Option PyData} : ∀ {as : List D} {ps : List PyData} {k : Nat} {p : PyData}, toPs f as = some ps → ps[k]? = some p → ∃ a, as[k]? = some a ∧ f a = some p
  | [], ps, k, p, h, hk => by cases h; simp at hk
  | a :: as, ps, k, p, h, hk => by
    simp only [toPs] at h
    split at h
    · rename_i q qs e1 e2
      cases h
      cases k with
      | zero => simp at hk; subst hk; exact ⟨a, rfl, e1⟩
      | succ k =>
        obtain ⟨b, h1, h2⟩ := toPs_at (k := k) e2 (by simpa using hk)
        exact ⟨b, by simpa using h1, h2⟩
    · cases h
theorem toPs_len {f : D → Option PyData} : ∀ {as : List D} {ps : List PyData}, toPs f as = some ps → ps.length = as.length
  | [], ps, h => by cases h; rfl
  | a :: as, ps, h => by
    simp only [toPs] at h
    split at h
    · rename_i q qs e1 e2
      cases h
      simp [toPs_len e2]
    · cases h
theorem index_pl {S : Sto} {as : List D} {a : D} {j : Nat} (ha : pl 11 a = true) (h : as.all (pl 11) = true) (hj : as[j]? = some a) (hn : ∀ k b, k < j → as[k]? = some b → b ≠ a) : indexD (.lst as) [a] S = .ok (.int j) S := by
  obtain ⟨p, hp⟩ := pl_data (S := S) 11 a ha
  obtain ⟨ps, hs⟩ := pls_data (S := S) (pl_data 11) as h
  have d1 : dP S (.lst as) = some (.list ps) := by
    show toP 12 S (.lst as) = _
    simp only [toP, hs]; rfl
  have d2 : dP S a = some p := toP_mono 11 a p hp
  have hl := toPs_len hs
  have hjl := (List.getElem?_eq_some_iff.1 hj).1
  have hall : ∀ k b, as[k]? = some b → pl 11 b = true := fun k b hb => List.all_eq_true.1 h b (List.mem_of_getElem? hb)
  have hf : findP p 0 ps = some (0 + j) := findP_at ps 0 j (fun k q hk hq => by
      obtain ⟨b, hb, eb⟩ := toPs_at hs hq
      have := pl_eqv 11 b a q p (hall k b hb) ha eb hp
      cases c : PyData.eqv q p with
      | false => rfl
      | true => exact absurd (this.1 c) (hn k b hk hb)) (by
      have hpj : ps[j]? = some ps[j] := List.getElem?_eq_getElem (by omega)
      obtain ⟨b, hb, eb⟩ := toPs_at hs hpj
      rw [hj] at hb
      cases hb
      exact ⟨_, hpj, (pl_eqv 11 a a _ p ha ha eb hp).2 rfl⟩)
  simp only [indexD, d1, d2, hf, Nat.zero_add]
theorem cut_take {xs : List D} {a : Nat} (h : a ≤ xs.length) : cutD xs none (some (a : Int)) = xs.take a := by
  have e1 : HT.sIx xs.length xs.length (some (a : Int)) = a := by rw [HT.sIx_nat]; omega
  simp [cutD, e1, HT.sIx_none]
theorem cut_drop {xs : List D} {a : Nat} (h : a ≤ xs.length) : cutD xs (some (a : Int)) none = xs.drop a := by
  have e2 : HT.sIx xs.length 0 (some (a : Int)) = a := by rw [HT.sIx_nat]; omega
  simp only [cutD, e2, HT.sIx_none]
  rw [List.take_of_length_le (by simp)]
theorem add_lst {xs ys : List D} {S : Sto} (h : xs.length + ys.length ≤ 1000000) : addD (.lst xs) (.lst ys) S = .ok (.lst (xs ++ ys)) S := by
  have h' : xs.length + ys.length ≤ sz := h
  simp only [addD, addL, lstOf_lst, if_pos h']
theorem or_chk {a b c d : ME} {fr : Fr} {S S1 : Sto} {T K : D} (h1 : a fr S = .ok T S1) (h2 : b fr S1 = .ok T S1) (hT : pl 12 T = true) (h3 : c fr S1 = .ok K S1) (h4 : d fr S1 = .ok K S1) (hK : pl 12 K = true) : tOrM (tVal (e2 (eqD true) a b)) (tVal (e2 (eqD true) c d)) fr S = .ok false S1 := by
  simp [h1, h2, eq_self hT, h3, h4, eq_self hK]
theorem ne_chk {a b : ME} {fr : Fr} {S S1 : Sto} {T : D} (h1 : a fr S = .ok T S1) (h2 : b fr S1 = .ok T S1) (hT : pl 12 T = true) : tVal (e2 (eqD true) a b) fr S = .ok false S1 := by
  simp [h1, h2, eq_self hT]
theorem in_nums {j : Nat} {ks : List Nat} (neg : Bool) (S : Sto) : inD neg (.int (j : Int)) (numsD ks) S = .ok (.bl (if neg then !decide (j ∈ ks) else decide (j ∈ ks))) S := by
  rw [in_plL (by simp [pl]) (by
    have := pl_nums 10 ks
    simpa [pl] using this)]
  by_cases c : j ∈ ks
  · have c' : D.int (j : Int) ∈ ks.map fun (k : Nat) => D.int (k : Int) := List.mem_map_of_mem (f := fun (k : Nat) => D.int (k : Int)) c
    simp only [c, c', decide_true]
  · have c' : ¬ D.int (j : Int) ∈ ks.map fun (k : Nat) => D.int (k : Int) := fun h => c (by
      obtain ⟨w, hw, e⟩ := List.mem_map.1 h
      have : w = j := Int.ofNat.inj (D.int.inj e)
      exact this ▸ hw)
    simp only [c, c', decide_false]
section
variable {R : Sto} {x : HIx} {t : HSt} {i : Nat} {r : Row}
theorem HA.change (h : HA R x t) (n : Nat) (hr : t.rows[i]? = some r) {d : Deed} (hd : okDeed d = true) (hl : r.deeds.length < 20) (hf : Fits r.pic (r.deeds ++ [d])) (hpl : t.past.length < 900000) :
    ∃ R', F_Hall_change [.ref x.h, .int i, d.d] (Tn n R) = .ok .non (Tn n R') ∧ HA R' x ⟨t.rows.set i { r with deeds := r.deeds ++ [d] }, t.past ++ [(i, r.deeds)]⟩ ∧ StR R R' x x t.n t.n := by
  obtain ⟨S', e, h1, s⟩ := G_change (h.at n) hr hd hl hf hpl
  have hb : becomeSt t i r (r.deeds ++ [d]) = ⟨t.rows.set i { r with deeds := r.deeds ++ [d] }, t.past ++ [(i, r.deeds)]⟩ := by
    have : ¬ r.deeds ++ [d] = r.deeds := fun e => by simpa using congrArg List.length e
    rw [becomeSt, if_neg this]
  rw [hb] at h1
  have hn : (⟨t.rows.set i { r with deeds := r.deeds ++ [d] }, t.past ++ [(i, r.deeds)]⟩ : HSt).n = t.n := by simp [HSt.n]
  obtain ⟨R', rfl, p, q⟩ := h.lift h1 (by rw [hn]; exact s)
  rw [hn] at q
  exact ⟨R', e, p, q⟩
end
end Py
set_option maxRecDepth 100000
set_option maxHeartbeats 1000000
namespace Py
open PySem PySem.Spec PyProof.Rows L2
/-! ### a law's own model of a hall -/
def modO (x : HIx) : O := .dS [(.inr "rows", .ref (x.L 0)), (.inr "past", .ref (x.L 1))]
structure ModAt (S : Sto) (x : HIx) (t : HSt) : Prop where
  ih : S[x.h]? = some (modO x)
  ir : S[x.L 0]? = some (.lst (tb t.n fun i => .ref (x.K i)))
  ip : S[x.L 1]? = some (.lst (t.past.map pastD))
  ik : ∀ (i : Nat) r, t.rows[i]? = some r → S[x.K i]? = some (rowO (x.L (2 + 2 * i)) (x.L (3 + 2 * i)) r)
  il : ∀ (i : Nat) r, t.rows[i]? = some r → S[x.L (2 + 2 * i)]? = some (.lst (r.places.map .str))
  im : ∀ (i : Nat) r, t.rows[i]? = some r → S[x.L (3 + 2 * i)]? = some (.lst (r.marks.map .str))
  kI : ∀ i j, i < t.n → j < t.n → x.K i = x.K j → i = j
  lI : ∀ a b, a < 2 + 2 * t.n → b < 2 + 2 * t.n → x.L a = x.L b → a = b
  hb : x.b = x.h
theorem ModAt.lt {S : Sto} {x : HIx} {t : HSt} (h : ModAt S x t) {i : Nat} (o : own x t.n i) : i < S.length := by
  have k : ∀ {j : Nat} {o : O}, S[j]? = some o → j < S.length := fun h => (List.getElem?_eq_some_iff.1 h).1
  rcases o with rfl | rfl | ⟨j, hj, rfl⟩ | ⟨a, ha, rfl⟩
  · exact k h.ih
  · rw [h.hb]; exact k h.ih
  · exact k (h.ik j _ (List.getElem?_eq_getElem hj))
  · by_cases c0 : a = 0
    · subst c0; exact k h.ir
    · by_cases c1 : a = 1
      · subst c1; exact k h.ip
      · by_cases e : a % 2 = 0
        · have : a = 2 + 2 * ((a - 2) / 2) := by omega
          rw [this]
          exact k (h.il ((a - 2) / 2) _ (List.getElem?_eq_getElem (by show (a - 2) / 2 < t.n; omega)))
        · have : a = 3 + 2 * ((a - 3) / 2) := by omega
          rw [this]
          exact k (h.im ((a - 3) / 2) _ (List.getElem?_eq_getElem (by show (a - 3) / 2 < t.n; omega)))
theorem ModAt.congr {S S' : Sto} {x : HIx} {t : HSt} (h : ModAt S x t) (e : ∀ i, own x t.n i → S'[i]? = S[i]?) : ModAt S' x t where
  ih := by rw [e _ (.inl rfl)]; exact h.ih
  ir := by rw [e _ (.inr (.inr (.inr ⟨0, by omega, rfl⟩)))]; exact h.ir
  ip := by rw [e _ (.inr (.inr (.inr ⟨1, by omega, rfl⟩)))]; exact h.ip
  ik := fun i r hi => by
    have hl := (List.getElem?_eq_some_iff.1 hi).1
    rw [e _ (.inr (.inr (.inl ⟨i, hl, rfl⟩)))]; exact h.ik i r hi
  il := fun i r hi => by
    have hl : i < t.n := (List.getElem?_eq_some_iff.1 hi).1
    rw [e _ (.inr (.inr (.inr ⟨2 + 2 * i, by omega, rfl⟩)))]; exact h.il i r hi
  im := fun i r hi => by
    have hl : i < t.n := (List.getElem?_eq_some_iff.1 hi).1
    rw [e _ (.inr (.inr (.inr ⟨3 + 2 * i, by omega, rfl⟩)))]; exact h.im i r hi
  kI := h.kI
  lI := h.lI
  hb := h.hb
theorem ModAt.app {S : Sto} {x : HIx} {t : HSt} (h : ModAt S x t) (os : Sto) : ModAt (S ++ os) x t := h.congr fun i o => by rw [List.getElem?_append_left (h.lt o)]
section
variable {S : Sto} {x : HIx} {t : HSt} {i : Nat} {r : Row}
theorem ModAt.addRow (h : ModAt S x t) (q : Row) (hp : q.places = []) (hm : q.marks = []) :
    ModAt ((S ++ [rowO (S.length + 1) (S.length + 2) q, .lst [], .lst []]).set (x.L 0) (.lst ((tb t.n fun i => .ref (x.K i)) ++ [.ref S.length]))) (x.addR t.n S.length) ⟨t.rows ++ [q], t.past⟩ := by
  have hln : (⟨t.rows ++ [q], t.past⟩ : HSt).n = t.n + 1 := by simp [HSt.n]
  have hL0 : (x.addR t.n S.length).L 0 = x.L 0 := by simp only [HIx.addR]; rw [if_neg (by omega), if_neg (by omega)]
  have hL1 : (x.addR t.n S.length).L 1 = x.L 1 := by simp only [HIx.addR]; rw [if_neg (by omega), if_neg (by omega)]
  have lt0 : x.L 0 < S.length := (List.getElem?_eq_some_iff.1 h.ir).1
  have old : ∀ {j : Nat} {o : O}, S[j]? = some o → j ≠ x.L 0 → ((S ++ [rowO (S.length + 1) (S.length + 2) q, .lst [], .lst []]).set (x.L 0) (.lst ((tb t.n fun i => .ref (x.K i)) ++ [.ref S.length])))[j]? = some o := fun {j o} hj hj0 => by
    have hjl := (List.getElem?_eq_some_iff.1 hj).1
    rw [List.getElem?_set_ne (Ne.symm hj0), List.getElem?_append_left (by simpa using hjl)]
    exact hj
  have new : ∀ (k : Nat) (o : O), [rowO (S.length + 1) (S.length + 2) q, .lst [], .lst []][k]? = some o → ((S ++ [rowO (S.length + 1) (S.length + 2) q, .lst [], .lst []]).set (x.L 0) (.lst ((tb t.n fun i => .ref (x.K i)) ++ [.ref S.length])))[S.length + k]? = some o := fun k o hk => by
    rw [List.getElem?_set_ne (by omega), List.getElem?_append_right (by omega)]
    simpa using hk
  have ll : ∀ a b, a < 2 + 2 * t.n → b < 2 + 2 * t.n → a ≠ b → x.L a ≠ x.L b := fun a b ha hb hne e => hne (h.lI a b ha hb e)
  have Llt : ∀ a, a < 2 + 2 * t.n → x.L a < S.length := fun a ha => h.lt (.inr (.inr (.inr ⟨a, ha, rfl⟩)))
  have Klt : ∀ j, j < t.n → x.K j < S.length := fun j hj => h.lt (.inr (.inr (.inl ⟨j, hj, rfl⟩)))
  refine ⟨?_, ?_, ?_, fun j q' hq => ?_, fun j q' hq => ?_, fun j q' hq => ?_, fun a b ha hb hab => ?_, fun a b ha hb hab => ?_, h.hb⟩
  · rw [show modO (x.addR t.n S.length) = modO x by simp only [modO, hL0, hL1]]
    exact old h.ih (ne_kind h.ih h.ir (by simp [modO]))
  · rw [hL0, List.getElem?_set_self (by simp; omega), hln, tb_succ]
    congr 3
    · exact tb_congr fun j hj => by simp only [HIx.addR]; rw [if_neg (by omega)]
    · simp only [HIx.addR, if_pos]
  · rw [hL1]; exact old h.ip (ll 1 0 (by omega) (by omega) (by omega))
  · have hq : (t.rows ++ [q])[j]? = some q' := hq
    by_cases c : j = t.n
    · subst c
      simp at hq
      subst hq
      simp only [HIx.addR, if_pos, if_neg (show ¬ 3 + 2 * t.n = 2 + 2 * t.n by omega)]
      exact new 0 _ rfl
    · have hj : j < t.n := by
        have := (List.getElem?_eq_some_iff.1 hq).1
        simp at this; have : j < t.n + 1 := this; omega
      rw [List.getElem?_append_left hj] at hq
      simp only [HIx.addR, if_neg c, if_neg (show ¬ 2 + 2 * j = 2 + 2 * t.n by omega), if_neg (show ¬ 2 + 2 * j = 3 + 2 * t.n by omega), if_neg (show ¬ 3 + 2 * j = 2 + 2 * t.n by omega), if_neg (show ¬ 3 + 2 * j = 3 + 2 * t.n by omega)]
      exact old (h.ik j q' hq) (ne_kind (h.ik j q' hq) h.ir (by simp [rowO]))
  · have hq : (t.rows ++ [q])[j]? = some q' := hq
    by_cases c : j = t.n
    · subst c
      simp at hq
      subst hq
      simp only [HIx.addR, if_pos]
      rw [hp]
      exact new 1 _ rfl
    · have hj : j < t.n := by
        have := (List.getElem?_eq_some_iff.1 hq).1
        simp at this; have : j < t.n + 1 := this; omega
      rw [List.getElem?_append_left hj] at hq
      simp only [HIx.addR, if_neg (show ¬ 2 + 2 * j = 2 + 2 * t.n by omega), if_neg (show ¬ 2 + 2 * j = 3 + 2 * t.n by omega)]
      exact old (h.il j q' hq) (ll (2 + 2 * j) 0 (by omega) (by omega) (by omega))
  · have hq : (t.rows ++ [q])[j]? = some q' := hq
    by_cases c : j = t.n
    · subst c
      simp at hq
      subst hq
      simp only [HIx.addR, if_pos, if_neg (show ¬ 3 + 2 * t.n = 2 + 2 * t.n by omega)]
      rw [hm]
      exact new 2 _ rfl
    · have hj : j < t.n := by
        have := (List.getElem?_eq_some_iff.1 hq).1
        simp at this; have : j < t.n + 1 := this; omega
      rw [List.getElem?_append_left hj] at hq
      simp only [HIx.addR, if_neg (show ¬ 3 + 2 * j = 2 + 2 * t.n by omega), if_neg (show ¬ 3 + 2 * j = 3 + 2 * t.n by omega)]
      exact old (h.im j q' hq) (ll (3 + 2 * j) 0 (by omega) (by omega) (by omega))
  · rw [hln] at ha hb
    simp only [HIx.addR] at hab
    by_cases ca : a = t.n
    · by_cases cb : b = t.n
      · omega
      · rw [if_pos ca, if_neg cb] at hab
        have := Klt b (by omega); omega
    · by_cases cb : b = t.n
      · rw [if_neg ca, if_pos cb] at hab
        have := Klt a (by omega); omega
      · rw [if_neg ca, if_neg cb] at hab
        exact h.kI a b (by omega) (by omega) hab
  · rw [hln] at ha hb
    simp only [HIx.addR] at hab
    by_cases ca : a = 2 + 2 * t.n
    · rw [if_pos ca] at hab
      by_cases cb : b = 2 + 2 * t.n
      · omega
      · rw [if_neg cb] at hab
        by_cases cb3 : b = 3 + 2 * t.n
        · rw [if_pos cb3] at hab; omega
        · rw [if_neg cb3] at hab
          have := Llt b (by omega); omega
    · rw [if_neg ca] at hab
      by_cases ca3 : a = 3 + 2 * t.n
      · rw [if_pos ca3] at hab
        by_cases cb : b = 2 + 2 * t.n
        · rw [if_pos cb] at hab; omega
        · rw [if_neg cb] at hab
          by_cases cb3 : b = 3 + 2 * t.n
          · omega
          · rw [if_neg cb3] at hab
            have := Llt b (by omega); omega
      · rw [if_neg ca3] at hab
        by_cases cb : b = 2 + 2 * t.n
        · rw [if_pos cb] at hab
          have := Llt a (by omega); omega
        · rw [if_neg cb] at hab
          by_cases cb3 : b = 3 + 2 * t.n
          · rw [if_pos cb3] at hab
            have := Llt a (by omega); omega
          · rw [if_neg cb3] at hab
            exact h.lI a b (by omega) (by omega) hab
theorem Step.addRowM (h : ModAt S x t) (q : Row) :
    Step S ((S ++ [rowO (S.length + 1) (S.length + 2) q, .lst [], .lst []]).set (x.L 0) (.lst ((tb t.n fun i => .ref (x.K i)) ++ [.ref S.length]))) x (x.addR t.n S.length) t.n (t.n + 1) where
  hh := rfl
  len := by simp
  old := fun j hj ho => by
    rw [List.getElem?_set_ne (fun e => ho (.inr (.inr (.inr ⟨0, by omega, e.symm⟩)))), List.getElem?_append_left (by simpa using hj)]
  new := fun j hj => by
    rcases hj with rfl | rfl | ⟨k, hk, rfl⟩ | ⟨a, ha, rfl⟩
    · exact .inl (.inl rfl)
    · exact .inl (.inr (.inl rfl))
    · simp only [HIx.addR]
      by_cases c : k = t.n
      · rw [if_pos c]; exact .inr (Nat.le_refl _)
      · rw [if_neg c]; exact .inl (.inr (.inr (.inl ⟨k, by omega, rfl⟩)))
    · simp only [HIx.addR]
      by_cases c : a = 2 + 2 * t.n
      · rw [if_pos c]; exact .inr (by omega)
      · rw [if_neg c]
        by_cases c3 : a = 3 + 2 * t.n
        · rw [if_pos c3]; exact .inr (by omega)
        · rw [if_neg c3]; exact .inl (.inr (.inr (.inr ⟨a, by omega, rfl⟩)))
theorem ModAt.newP (h : ModAt S x t) (hr : t.rows[i]? = some r) :
    ModAt ((S ++ [O.lst []]).set (x.K i) (rowO S.length (x.L (3 + 2 * i)) r)) (x.newP i S.length) (t.setR i { r with places := [] }) := by
  have hi : i < t.n := (List.getElem?_eq_some_iff.1 hr).1
  have hk := h.ik i r hr
  have hkl := (List.getElem?_eq_some_iff.1 hk).1
  have hL0 : (x.newP i S.length).L 0 = x.L 0 := by simp only [HIx.newP]; rw [if_neg (by omega)]
  have hL1 : (x.newP i S.length).L 1 = x.L 1 := by simp only [HIx.newP]; rw [if_neg (by omega)]
  have old : ∀ {j : Nat} {o : O}, S[j]? = some o → (∀ kvs, o ≠ .dS kvs) → ((S ++ [O.lst []]).set (x.K i) (rowO S.length (x.L (3 + 2 * i)) r))[j]? = some o := fun {j o} hj hne => by
    have hjl := (List.getElem?_eq_some_iff.1 hj).1
    rw [List.getElem?_set_ne (ne_kind hk hj fun e => hne _ e.symm), List.getElem?_append_left hjl]
    exact hj
  have Llt : ∀ a, a < 2 + 2 * t.n → x.L a < S.length := fun a ha => h.lt (.inr (.inr (.inr ⟨a, ha, rfl⟩)))
  have hn : (t.rows.set i { r with places := [] }).length = t.n := by simp
  have hsn : (t.setR i { r with places := [] }).n = t.n := hn
  refine ⟨?_, ?_, ?_, fun j q hq => ?_, fun j q hq => ?_, fun j q hq => ?_, fun a b ha hb hab => ?_, fun a b ha hb hab => ?_, h.hb⟩
  · rw [show modO (x.newP i S.length) = modO x by simp only [modO, hL0, hL1]]
    have hjl := (List.getElem?_eq_some_iff.1 h.ih).1
    show ((S ++ [O.lst []]).set (x.K i) (rowO S.length (x.L (3 + 2 * i)) r))[x.h]? = _
    rw [List.getElem?_set_ne (ne_kind hk h.ih (by simp [rowO, modO])), List.getElem?_append_left hjl]
    exact h.ih
  · rw [hL0, hsn]; exact old h.ir (by simp)
  · rw [hL1]; exact old h.ip (by simp)
  · by_cases c : j = i
    · subst c
      have : (t.rows.set j { r with places := [] })[j]? = some { r with places := [] } := by rw [List.getElem?_set_self hi]
      have hq : (t.rows.set j { r with places := [] })[j]? = some q := hq
      rw [this] at hq
      cases hq
      simp only [HIx.newP, if_pos, if_neg (show ¬ 3 + 2 * j = 2 + 2 * j by omega)]
      rw [List.getElem?_set_self (by simp; omega)]
      rfl
    · have hq : (t.rows.set i { r with places := [] })[j]? = some q := hq
      rw [List.getElem?_set_ne (Ne.symm c)] at hq
      have hj : j < t.n := (List.getElem?_eq_some_iff.1 hq).1
      have hkj := h.ik j q hq
      simp only [HIx.newP, if_neg (show ¬ 2 + 2 * j = 2 + 2 * i by omega), if_neg (show ¬ 3 + 2 * j = 2 + 2 * i by omega)]
      rw [List.getElem?_set_ne (fun e => c (h.kI j i hj hi e.symm)), List.getElem?_append_left (List.getElem?_eq_some_iff.1 hkj).1]
      exact hkj
  · by_cases c : j = i
    · subst c
      have : (t.rows.set j { r with places := [] })[j]? = some { r with places := [] } := by rw [List.getElem?_set_self hi]
      have hq : (t.rows.set j { r with places := [] })[j]? = some q := hq
      rw [this] at hq
      cases hq
      simp only [HIx.newP, if_pos]
      rw [List.getElem?_set_ne (by omega)]
      simp
    · have hq : (t.rows.set i { r with places := [] })[j]? = some q := hq
      rw [List.getElem?_set_ne (Ne.symm c)] at hq
      simp only [HIx.newP, if_neg (show ¬ 2 + 2 * j = 2 + 2 * i by omega)]
      exact old (h.il j q hq) (by simp)
  · simp only [HIx.newP, if_neg (show ¬ 3 + 2 * j = 2 + 2 * i by omega)]
    by_cases c : j = i
    · subst c
      have : (t.rows.set j { r with places := [] })[j]? = some { r with places := [] } := by rw [List.getElem?_set_self hi]
      have hq : (t.rows.set j { r with places := [] })[j]? = some q := hq
      rw [this] at hq
      cases hq
      exact old (h.im j r hr) (by simp)
    · have hq : (t.rows.set i { r with places := [] })[j]? = some q := hq
      rw [List.getElem?_set_ne (Ne.symm c)] at hq
      exact old (h.im j q hq) (by simp)
  · rw [hsn] at ha hb
    exact h.kI a b ha hb hab
  · rw [hsn] at ha hb
    simp only [HIx.newP] at hab
    by_cases ca : a = 2 + 2 * i
    · rw [if_pos ca] at hab
      by_cases cb : b = 2 + 2 * i
      · omega
      · rw [if_neg cb] at hab
        have := Llt b hb; omega
    · rw [if_neg ca] at hab
      by_cases cb : b = 2 + 2 * i
      · rw [if_pos cb] at hab
        have := Llt a ha; omega
      · rw [if_neg cb] at hab
        exact h.lI a b ha hb hab
theorem Step.newPM (h : ModAt S x t) (hi : i < t.n) (o : O) : Step S ((S ++ [O.lst []]).set (x.K i) o) x (x.newP i S.length) t.n t.n where
  hh := rfl
  len := by simp
  old := fun j hj ho => by
    rw [List.getElem?_set_ne (fun e => ho (.inr (.inr (.inl ⟨i, hi, e.symm⟩)))), List.getElem?_append_left hj]
  new := fun j hj => by
    rcases hj with rfl | rfl | ⟨k, hk, rfl⟩ | ⟨a, ha, rfl⟩
    · exact .inl (.inl rfl)
    · exact .inl (.inr (.inl rfl))
    · exact .inl (.inr (.inr (.inl ⟨k, hk, rfl⟩)))
    · simp only [HIx.newP]
      by_cases c : a = 2 + 2 * i
      · rw [if_pos c]; exact .inr (Nat.le_refl _)
      · rw [if_neg c]; exact .inl (.inr (.inr (.inr ⟨a, ha, rfl⟩)))
theorem ModAt.addPl (h : ModAt S x t) (hr : t.rows[i]? = some r) (z : Str) : ModAt (S.set (x.L (2 + 2 * i)) (.lst (strsD (r.places ++ [z])))) x (t.setR i { r with places := r.places ++ [z] }) := by
  have hi : i < t.n := (List.getElem?_eq_some_iff.1 hr).1
  have hda := h.il i r hr
  have nk : ∀ {j : Nat} {o : O}, S[j]? = some o → (∀ ds, o ≠ .lst ds) → (S.set (x.L (2 + 2 * i)) (.lst (strsD (r.places ++ [z]))))[j]? = some o := fun {j o} hj hne => by
    rw [List.getElem?_set_ne]
    · exact hj
    · exact ne_kind hda hj fun e => hne _ e.symm
  have nl : ∀ {b : Nat} {o : O}, b < 2 + 2 * t.n → b ≠ 2 + 2 * i → S[x.L b]? = some o → (S.set (x.L (2 + 2 * i)) (.lst (strsD (r.places ++ [z]))))[x.L b]? = some o := fun {b o} hb hne hj => by
    rw [List.getElem?_set_ne (fun e => hne (h.lI b (2 + 2 * i) hb (by omega) e.symm))]
    exact hj
  have hs : (S.set (x.L (2 + 2 * i)) (.lst (strsD (r.places ++ [z]))))[x.L (2 + 2 * i)]? = some (.lst (strsD (r.places ++ [z]))) := List.getElem?_set_self (List.getElem?_eq_some_iff.1 hda).1
  have hsn : (t.setR i { r with places := r.places ++ [z] }).n = t.n := by simp [HSt.n]
  have hrow : ∀ (j : Nat) q, (t.rows.set i { r with places := r.places ++ [z] })[j]? = some q → ∃ r0, t.rows[j]? = some r0 ∧ q.pic = r0.pic ∧ q.deeds = r0.deeds ∧ q.stars = r0.stars ∧ q.moment = r0.moment ∧ q.marks = r0.marks ∧ q.places = if j = i then r.places ++ [z] else r0.places := fun j q hq => by
    by_cases c : j = i
    · subst c
      have : (t.rows.set j { r with places := r.places ++ [z] })[j]? = some { r with places := r.places ++ [z] } := by rw [List.getElem?_set_self hi]
      rw [this] at hq
      cases hq
      exact ⟨r, hr, rfl, rfl, rfl, rfl, rfl, by rw [if_pos rfl]⟩
    · rw [List.getElem?_set_ne (Ne.symm c)] at hq
      exact ⟨q, hq, rfl, rfl, rfl, rfl, rfl, by rw [if_neg c]⟩
  refine ⟨nk h.ih (by simp [modO]), ?_, nl (by omega) (by omega) h.ip, fun j q hq => ?_, fun j q hq => ?_, fun j q hq => ?_, fun a b ha hb => ?_, fun a b ha hb => ?_, h.hb⟩
  · rw [hsn]; exact nl (by omega) (by omega) h.ir
  · obtain ⟨r0, e, h1, h2, h3, h4, _⟩ := hrow j q hq
    have : rowO (x.L (2 + 2 * j)) (x.L (3 + 2 * j)) q = rowO (x.L (2 + 2 * j)) (x.L (3 + 2 * j)) r0 := by simp only [rowO, h1, h2, h3, h4]
    rw [this]
    exact nk (h.ik j r0 e) (by simp [rowO])
  · obtain ⟨r0, e, _, _, _, _, _, h5⟩ := hrow j q hq
    have hj : j < t.n := (List.getElem?_eq_some_iff.1 e).1
    rw [h5]
    by_cases c : j = i
    · subst c; rw [if_pos rfl]; exact hs
    · rw [if_neg c]; exact nl (by omega) (by omega) (h.il j r0 e)
  · obtain ⟨r0, e, _, _, _, _, h6, _⟩ := hrow j q hq
    have hj : j < t.n := (List.getElem?_eq_some_iff.1 e).1
    rw [h6]
    exact nl (by omega) (by omega) (h.im j r0 e)
  · rw [hsn] at ha hb; exact h.kI a b ha hb
  · rw [hsn] at ha hb; exact h.lI a b ha hb
theorem ModAt.rows (h : ModAt S x t) : dgetS (.ref x.h) (.str "rows") S = .ok (.ref (x.L 0)) S := by simp only [dgetS, h.ih, modO, skey]; rfl
/-! the picture's rows in the model -/
theorem idx_filter {p : Pic} : ∀ (rs : List Row) (k : Nat), (∀ r ∈ rs, OkP r.pic) → ∀ q : Nat → Bool, (∀ (j : Nat) r, rs[j]? = some r → (q (k + j) = true ↔ gr r.pic = gr p)) →
    match idxP rs p with
    | none => ((List.range rs.length).map (k + ·)).filter q = []
    | some i => ∃ l, ((List.range rs.length).map (k + ·)).filter q = (k + i) :: l
  | [], k, ho, q, h => by simp [idxP]
  | r :: rs, k, ho, q, h => by
    have h0 := h 0 r rfl
    have or := ho r (List.mem_cons_self ..)
    have ih := idx_filter (p := p) rs (k + 1) (fun r hr => ho r (List.mem_cons_of_mem _ hr)) q (fun j r hr => by
      have := h (j + 1) r (by simpa using hr)
      rw [show k + (j + 1) = k + 1 + j by omega] at this
      exact this)
    have hr : (List.range (r :: rs).length).map (k + ·) = k :: (List.range rs.length).map (k + 1 + ·) := by
      rw [List.length_cons, List.range_succ_eq_map, List.map_cons, List.map_map]
      congr 1
      apply List.map_congr_left
      intro a _
      simp
      omega
    rw [hr]
    by_cases c : gkey r.pic = gkey p
    · simp only [idxP, if_pos c]
      have : q k = true := h0.2 ((gkey_iff or.1.2.1).1 c)
      exact ⟨_, by rw [List.filter_cons_of_pos this]; rfl⟩
    · simp only [idxP, if_neg c]
      have hq : ¬ q k = true := fun e => c ((gkey_iff or.1.2.1).2 (h0.1 e))
      rw [List.filter_cons_of_neg hq]
      cases hi : idxP rs p with
      | none => rw [hi] at ih; simpa using ih
      | some i =>
        rw [hi] at ih
        obtain ⟨l, e⟩ := ih
        exact ⟨l, by simp only [Option.map_some]; rw [e]; congr 1; omega⟩
end
end Py
set_option maxRecDepth 100000
set_option maxHeartbeats 1000000
namespace Py
open PySem PySem.Spec PyProof.Rows L2
/-! ### drawn places -/
def fiveP : List Str := ["a", "ab", "a/b", "a/bc", "c"]
abbrev eightL : Str := "pqrstuvw"
def fortyP : List Str := fiveP.flatMap fun p => eightL.cps.toList.map fun c => (p ++ "/") ++ ⟨#[c]⟩
theorem forty_ok : fortyP.all placeOkB = true := by decide +kernel
theorem eight_len : eightL.cps.toList.length = 8 := by decide +kernel
theorem five_short : fiveP.all (fun p => decide (p.length ≤ 10)) = true := by decide +kernel
theorem sorted_rise {zs : List Str} (hd : zs.Nodup) : Rising (sortS zs) := by
  have hs : (sortS zs).Pairwise fun a b => a.cps.toList ≤ b.cps.toList := by
    have h := List.pairwise_mergeSort (le := fun a b : Str => decide (a.cps.toList ≤ b.cps.toList)) (fun a b c h1 h2 => by
      simp only [decide_eq_true_eq] at *
      exact List.le_trans h1 h2) (fun a b => by
      simp only [Bool.or_eq_true, decide_eq_true_eq]
      exact List.le_total _ _) zs
    exact h.imp fun h => by simpa using h
  have hn : (sortS zs).Nodup := (sortS_perm zs).nodup_iff.2 hd
  refine (hs.and hn).imp fun {a b} h => ?_
  by_cases c : b.cps.toList ≤ a.cps.toList
  · exfalso
    have e : a.cps.toList = b.cps.toList := List.le_antisymm h.1 c
    apply h.2
    cases a; cases b
    simp at e
    simp [e]
  · exact List.not_le.1 c
theorem G_lplaces (ns : List Int) (n many : Nat) (hm : many ≤ 100) (hn : n < 700000) (R : Sto) : ∃ (zs : List Str) (n' : Nat), zs.length ≤ many ∧ zs.all placeOkB = true ∧ Rising zs ∧ n' ≤ n + 2 * many ∧
    F_law_places [scr ns, .ref 0, .int many] (Tn n R) = .ok (.lst (strsD zs)) (Tn n' R) := by
  have e : F_law_places [scr ns, .ref 0, .int many] (Tn n R) = leaveR (Tn n R) (bodyRes (b_law_places [some (scr ns), some (.ref 0), some (.int many), none, none, none] (Tn n R))) := by
    unfold F_law_places
    rw [fnD_eq (n := 3) rfl]
    rfl
  rw [e]
  unfold b_law_places
  rw [sq_set (S1 := Tn n (R ++ [O.lst []])) (d := .ref (R.length + 1)) (newL_Tn _)]
  simp only [List.set_cons_succ, List.set_cons_zero]
  obtain ⟨fr', S', f, ⟨zs, n', o4, o5, efr, eS, q1, q2, q3, q4⟩⟩ := for_rng_inv (f := aCons (eVar 2) aNil) (i := 4) (n := many) (S0 := Tn n (R ++ [O.lst []])) (S := Tn n (R ++ [O.lst []])) (fr := [some (scr ns), some (.ref 0), some (.int many), some (.ref (R.length + 1)), none, none])
    (body := (sSeq (sSet 5 (e2 addD (e2 addD (eCall F_law_pick (aCons (eVar 0) (aCons (eVar 1) (aCons (eLst (aCons (eC (.str "a")) (aCons (eC (.str "ab")) (aCons (eC (.str "a/b")) (aCons (eC (.str "a/bc")) (aCons (eC (.str "c")) aNil)))))) aNil)))) (eC (.str "/"))) (e2 sxD (eC (.str "pqrstuvw")) (eCall F_law_draw (aCons (eVar 0) (aCons (eVar 1) (aCons (eC (.int 8)) aNil)))))))
    (sIf (tVal (e2 (inD true) (eVar 5) (eVar 3)))
    (sExpr (eMethL appendD (eVar 3) (aCons (eVar 5) aNil)))
    sNil)))
    (fun k fr S => ∃ (zs : List Str) (n' : Nat) (o4 o5 : Option D), fr = [some (scr ns), some (.ref 0), some (.int many), some (.ref (R.length + 1)), o4, o5] ∧ S = Tn n' (R ++ [O.lst (strsD zs)]) ∧ zs.length ≤ k ∧ (∀ z ∈ zs, z ∈ fortyP) ∧ zs.Nodup ∧ n' ≤ n + 2 * k)
    (by simp) (by omega) ⟨[], n, none, none, rfl, rfl, by simp, by simp, by simp, by omega⟩ (by
      rintro k hk fr S ⟨zs, n', o4, o5, rfl, rfl, q1, q2, q3, q4⟩
      have oks : okS zs = true := List.all_eq_true.2 fun z hz => (placeOk_iff.1 (List.all_eq_true.1 forty_ok z (q2 z hz))).2.2.2.2.1
      obtain ⟨p, hp, pk⟩ : ∃ p, p ∈ fiveP ∧ F_law_pick [scr ns, .ref 0, .lst [.str "a", .str "ab", .str "a/b", .str "a/bc", .str "c"]] (Tn n' (R ++ [O.lst (strsD zs)])) = .ok (.str p) (Tn (n' + 1) (R ++ [O.lst (strsD zs)])) := by
        obtain ⟨j, hj, e⟩ := F_pick ns n' (by omega) (R ++ [O.lst (strsD zs)]) (ds := strsD fiveP) (by simp [fiveP])
        obtain ⟨d, hd, ed⟩ := List.mem_map.1 (List.getElem_mem hj)
        rw [← ed] at e
        exact ⟨d, hd, e⟩
      obtain ⟨j, hj, dj⟩ := F_drawN ns (n' + 1) (many := 8) (by decide) (by omega) (R ++ [O.lst (strsD zs)])
      have dj' : F_law_draw [scr ns, .ref 0, .int 8] (Tn (n' + 1) (R ++ [O.lst (strsD zs)])) = .ok (.int j) (Tn (n' + 1 + 1) (R ++ [O.lst (strsD zs)])) := dj
      have hjl : j < eightL.cps.toList.length := by rw [eight_len]; exact hj
      have sx := fun S => sx_at (w := eightL) hjl (by decide +kernel) S
      have pl10 : p.length ≤ 10 := of_decide_eq_true (List.all_eq_true.1 five_short p hp)
      have a1 : ∀ S, addD (.str p) (.str "/") S = .ok (.str (p ++ "/")) S := fun S => str_add (by
        have : ("/" : Str).length = 1 := by decide +kernel
        omega)
      have hl1 : (p ++ "/" : Str).length ≤ 11 := by
        have e : (p ++ ("/" : Str)).length = p.length + ("/" : Str).length := Array.size_append
        have : ("/" : Str).length = 1 := by decide +kernel
        omega
      have a2 : ∀ S, addD (.str (p ++ "/")) (.str ⟨#[eightL.cps.toList[j]]⟩) S = .ok (.str ((p ++ "/") ++ ⟨#[eightL.cps.toList[j]]⟩)) S := fun S => str_add (by
        have : (⟨#[eightL.cps.toList[j]]⟩ : Str).length = 1 := rfl
        omega)
      have hz40 : (p ++ "/" : Str) ++ ⟨#[eightL.cps.toList[j]]⟩ ∈ fortyP := List.mem_flatMap.2 ⟨p, hp, List.mem_map.2 ⟨_, List.getElem_mem hjl, rfl⟩⟩
      generalize (p ++ "/" : Str) ++ ⟨#[eightL.cps.toList[j]]⟩ = z at a2 hz40
      generalize (p ++ "/" : Str) = pp at a1 a2
      simp only [List.set_cons_succ, List.set_cons_zero]
      have pz : PyData.strOk z = true := (placeOk_iff.1 (List.all_eq_true.1 forty_ok z hz40)).2.2.2.2.1
      rw [sq_set (S1 := Tn (n' + 1 + 1) (R ++ [O.lst (strsD zs)])) (d := .str z) (by
        have l5 : [D.str "a", .str "ab", .str "a/b", .str "a/bc", .str "c"].length ≤ sz := by simp [sz]
        simp only [ap_2, ap_call, ap_cons, ap_nil, ap_var, ap_c, ap_lst, List.getElem?_cons_succ, List.getElem?_cons_zero, Res.bind_ok, if_pos l5, pk, a1, dj', sx, a2])]
      simp only [List.set_cons_succ, List.set_cons_zero]
      have hg : (Tn (n' + 1 + 1) (R ++ [O.lst (strsD zs)]))[R.length + 1]? = some (.lst (strsD zs)) := by simp
      have hin : inD true (.str z) (.ref (R.length + 1)) (Tn (n' + 1 + 1) (R ++ [O.lst (strsD zs)])) = .ok (.bl (!decide (z ∈ zs))) (Tn (n' + 1 + 1) (R ++ [O.lst (strsD zs)])) := by
        rw [inD_refR hg, in_strs pz oks]; rfl
      by_cases c : z ∈ zs
      · refine ⟨_, _, ?_, ⟨zs, n' + 1 + 1, some (.int k), some (.str z), rfl, rfl, by omega, q2, q3, by omega⟩⟩
        rw [si_f (S1 := Tn (n' + 1 + 1) (R ++ [O.lst (strsD zs)])) (by simp [hin, c])]
        rfl
      · refine ⟨_, _, ?_, ⟨zs ++ [z], n' + 1 + 1, some (.int k), some (.str z), rfl, rfl, by simp; omega, ?_, ?_, by omega⟩⟩
        · rw [si_t (S1 := Tn (n' + 1 + 1) (R ++ [O.lst (strsD zs)])) (by simp [hin, c])]
          have hlt : (strsD zs).length < 1000 := by simp; omega
          simp only [sExpr, eMethL, ap_var, List.getElem?_cons_succ, List.getElem?_cons_zero, Res.bind_ok, ls_ref hg, ap_cons, ap_nil, app_lst hg hlt, Res.then_ok]
          simp [List.set_append_right]
        · intro w hw
          rcases List.mem_append.1 hw with hw | hw
          · exact q2 w hw
          · simp at hw; subst hw; exact hz40
        · rw [List.nodup_append]
          refine ⟨q3, by simp, ?_⟩
          intro a ha b hb
          simp at hb
          subst hb
          exact fun e => c (e ▸ ha))
  subst efr eS
  have oks : okS zs = true := List.all_eq_true.2 fun z hz => (placeOk_iff.1 (List.all_eq_true.1 forty_ok z (q2 z hz))).2.2.2.2.1
  refine ⟨sortS zs, n', by rw [(sortS_perm zs).length_eq]; exact q1, ?_, sorted_rise q3, q4, ?_⟩
  · exact List.all_eq_true.2 fun z hz => List.all_eq_true.1 forty_ok z (q2 z ((sortS_perm zs).mem_iff.1 hz))
  · have hg : (Tn n' (R ++ [O.lst (strsD zs)]))[R.length + 1]? = some (.lst (strsD zs)) := by simp
    rw [sq_nx f, s_ret (S1 := Tn n' (R ++ [O.lst (strsD zs)])) (d := .lst (strsD (sortS zs))) (by simp [sorted_ref oks hg])]
    rw [body_ret, leave_Tn (pl_lower _ 12 _ (pl_strs 10 (by rw [okS_perm (sortS_perm zs)]; exact oks)))]
/-! ### drawn files -/
theorem G_lfiles (ns : List Int) (n most : Nat) (hm : most ≤ 50) (hn : n < 600000) (ps : List Pic) (p0 : 0 < ps.length) (pok : ∀ p ∈ ps, OkP p) (R : Sto) : ∃ (fs : List (Str × Pic)) (n' : Nat), fs.length ≤ most ∧ FilesOk fs ∧ (∀ f ∈ fs, f.2 ∈ ps) ∧ n' ≤ n + 200 ∧
    F_law_files [scr ns, .ref 0, .lst (ps.map gr), .int most] (Tn n R) = .ok (.tup (fs.map fileD)) (Tn n' R) := by
  have e : F_law_files [scr ns, .ref 0, .lst (ps.map gr), .int most] (Tn n R) = leaveR (Tn n R) (bodyRes (b_law_files [some (scr ns), some (.ref 0), some (.lst (ps.map gr)), some (.int most), none, none] (Tn n R))) := by
    unfold F_law_files
    rw [fnD_eq (n := 4) rfl]
    rfl
  rw [e]
  unfold b_law_files
  rw [sq_set (S1 := Tn n (R ++ [O.lst []])) (d := .ref (R.length + 1)) (newL_Tn _)]
  simp only [List.set_cons_succ, List.set_cons_zero]
  obtain ⟨k, hk, dk⟩ := F_drawN ns n (many := most + 1) (by omega) (by omega) (R ++ [O.lst []])
  have dk' : F_law_draw [scr ns, .ref 0, .int ((most : Int) + 1)] (Tn n (R ++ [O.lst []])) = .ok (.int k) (Tn (n + 1) (R ++ [O.lst []])) := by simpa using dk
  obtain ⟨zs, n1, zl, zok, zr, hn1, ez⟩ := G_lplaces ns (n + 1) k (by omega) (by omega) (R ++ [O.lst []])
  obtain ⟨fr', S', f, ⟨fs, n', o5, efr, eS, q1, q2, q3⟩⟩ := loop_inv (it := ⟨strsD zs, none⟩) rfl (g := gN 5)
    (body := (sExpr (eMethL appendD (eVar 4) (aCons (eTup (aCons (eVar 5) (aCons (eCall F_law_pick (aCons (eVar 0) (aCons (eVar 1) (aCons (eVar 2) aNil)))) aNil))) aNil))))
    (fun k fr S => ∃ (fs : List (Str × Pic)) (n' : Nat) (o5 : Option D), fr = [some (scr ns), some (.ref 0), some (.lst (ps.map gr)), some (.int most), some (.ref (R.length + 1)), o5] ∧ S = Tn n' (R ++ [O.lst (fs.map fileD)]) ∧ fs.map (·.1) = zs.take k ∧ (∀ f ∈ fs, f.2 ∈ ps) ∧ n' ≤ n1 + k) (strsD zs) 0 (fun k x hx fr S hI => by
      obtain ⟨fs, n', o5, rfl, rfl, q1, q2, q3⟩ := hI
      simp only [Nat.zero_add] at q1 q3 ⊢
      have hkl : k < zs.length := by
        have := (List.getElem?_eq_some_iff.1 hx).1
        simpa using this
      have hxz : x = .str zs[k] := by
        simp [hkl] at hx
        exact hx.symm
      subst hxz
      obtain ⟨p, hp, pk⟩ : ∃ p, p ∈ ps ∧ F_law_pick [scr ns, .ref 0, .lst (ps.map gr)] (Tn n' (R ++ [O.lst (fs.map fileD)])) = .ok (gr p) (Tn (n' + 1) (R ++ [O.lst (fs.map fileD)])) := by
        obtain ⟨j, hj, e⟩ := F_pick ns n' (by omega) (R ++ [O.lst (fs.map fileD)]) (ds := ps.map gr) (by simpa using p0)
        obtain ⟨d, hd, ed⟩ := List.mem_map.1 (List.getElem_mem hj)
        rw [← ed] at e
        exact ⟨d, hd, e⟩
      have hfl : fs.length ≤ k := by
        have := congrArg List.length q1
        simp at this
        omega
      refine ⟨_, _, _, rfl, ?_, ⟨fs ++ [(zs[k], p)], n' + 1, some (.str zs[k]), rfl, rfl, ?_, ?_, by omega⟩⟩
      · have hg : (Tn (n' + 1) (R ++ [O.lst (fs.map fileD)]))[R.length + 1]? = some (.lst (fs.map fileD)) := by simp
        have hg0 : (Tn n' (R ++ [O.lst (fs.map fileD)]))[R.length + 1]? = some (.lst (fs.map fileD)) := by simp
        have hlt : (fs.map fileD).length < 1000 := by simp; omega
        have l2 : [D.str zs[k], gr p].length ≤ sz := by simp [sz]
        have hfd : D.tup [.str zs[k], gr p] = fileD (zs[k], p) := rfl
        simp only [List.set_cons_succ, List.set_cons_zero, sExpr, eMethL, ap_var, List.getElem?_cons_succ, List.getElem?_cons_zero, Res.bind_ok, ls_ref hg0, ap_cons, ap_nil, ap_tup, ap_call, pk, if_pos l2, hfd, app_lst hg hlt, Res.then_ok]
        simp [List.set_append_right]
      · rw [List.map_append, q1, List.take_succ, List.getElem?_eq_getElem hkl]
        simp
      · intro w hw
        rcases List.mem_append.1 hw with hw | hw
        · exact q2 w hw
        · simp at hw; subst hw; exact hp) [some (scr ns), some (.ref 0), some (.lst (ps.map gr)), some (.int most), some (.ref (R.length + 1)), none] (Tn n1 (R ++ [O.lst []])) ⟨[], n1, none, rfl, rfl, by simp, by simp, by omega⟩
  subst efr eS
  have hz : fs.map (·.1) = zs := by
    rw [q1]
    simp
  have hfl : fs.length = zs.length := by
    have := congrArg List.length hz
    simpa using this
  refine ⟨fs, n', by omega, ⟨by omega, fun g hg => ?_, fun g hg => pok _ (q2 g hg), by rw [hz]; exact zr⟩, q2, by simp at q3; omega, ?_⟩
  · have : g.1 ∈ zs := by rw [← hz]; exact List.mem_map_of_mem hg
    exact List.all_eq_true.1 zok _ this
  · rw [sq_nx (show sFor _ (gN 5) _ _ _ = _ by
      simp only [sFor, iSeq, ap_call, ap_cons, ap_nil, ap_var, ap_2, ap_c, List.getElem?_cons_succ, List.getElem?_cons_zero, Res.bind_ok, ap_add, dk', ez, seqIts, Res.then_ok]
      exact f)]
    have hg : (Tn n' (R ++ [O.lst (fs.map fileD)]))[R.length + 1]? = some (.lst (fs.map fileD)) := by simp
    rw [s_ret (S1 := Tn n' (R ++ [O.lst (fs.map fileD)])) (d := .tup (fs.map fileD)) (by
      simp only [ap_call, ap_cons, ap_nil, ap_var, List.getElem?_cons_succ, List.getElem?_cons_zero, Res.bind_ok, tupleD, seqOf, ls_ref hg])]
    rw [body_ret, leave_Tn]
    simp only [D.lower]
    refine lowerL_of fun d hd => ?_
    obtain ⟨g, _, rfl⟩ := List.mem_map.1 hd
    have := pl_lower (R.length + 1) 12 (gr g.2) (pl_gr 9 _)
    simp [fileD, D.lower, lowerL, this]
end Py
set_option maxRecDepth 100000
set_option maxHeartbeats 1000000
namespace Py
open PySem PySem.Spec PyProof.Rows L2
open Classical in
theorem nodup_len {α : Type} : ∀ {l m : List α}, l.Nodup → (∀ a ∈ l, a ∈ m) → l.length ≤ m.length
  | [], m, _, _ => by simp
  | a :: l, m, h, hm => by
    rw [List.nodup_cons] at h
    have h1 := nodup_len (l := l) (m := m.filter fun b => !decide (b = a)) h.2 (fun b hb => List.mem_filter.2 ⟨hm b (List.mem_cons_of_mem _ hb), by
      have : ¬ b = a := fun e => h.1 (e ▸ hb)
      simp [this]⟩)
    have h2 : (m.filter fun b => !decide (b = a)).length < m.length := by
      rw [List.length_filter_lt_length_iff_exists]
      exact ⟨a, hm a (List.mem_cons_self ..), by simp⟩
    simp only [List.length_cons]
    omega
/-! ### the rows' pictures -/
structure RInv (ps : List Pic) (rs : List Row) : Prop where
  pin : ∀ r ∈ rs, r.pic ∈ ps
  nd : (rs.map fun r => gr r.pic).Nodup
theorem RInv.nil (ps : List Pic) : RInv ps [] := ⟨by simp, by simp⟩
theorem RInv.len {ps : List Pic} {rs : List Row} (h : RInv ps rs) : rs.length ≤ ps.length := by
  have := nodup_len h.nd (m := ps.map gr) (fun a ha => by
    obtain ⟨r, hr, rfl⟩ := List.mem_map.1 ha
    exact List.mem_map_of_mem (h.pin r hr))
  simpa using this
theorem RInv.congr {ps : List Pic} {rs rs' : List Row} (h : RInv ps rs) (e : rs'.map Row.pic = rs.map Row.pic) : RInv ps rs' := by
  constructor
  · intro r hr
    have : r.pic ∈ rs'.map Row.pic := List.mem_map_of_mem hr
    rw [e] at this
    obtain ⟨q, hq, eq⟩ := List.mem_map.1 this
    rw [← eq]
    exact h.pin q hq
  · have h1 : ∀ l : List Row, (l.map fun r => gr r.pic) = (l.map Row.pic).map gr := fun l => by simp
    rw [h1, e, ← h1]
    exact h.nd
theorem set_pic {rs : List Row} {i : Nat} {r r' : Row} (hr : rs[i]? = some r) (hp : r'.pic = r.pic) : (rs.set i r').map Row.pic = rs.map Row.pic := by
  rw [List.map_set]
  apply List.ext_getElem?
  intro j
  by_cases c : i = j
  · subst c
    rw [List.getElem?_set_self (by simpa using (List.getElem?_eq_some_iff.1 hr).1)]
    simp [hr, hp]
  · rw [List.getElem?_set_ne c]
theorem idxP_none_gr {rs : List Row} {p : Pic} (h : idxP rs p = none) (ho : ∀ r ∈ rs, OkP r.pic) : gr p ∉ rs.map fun r => gr r.pic := fun hm => by
  obtain ⟨r, hr, e⟩ := List.mem_map.1 hm
  have h1 := idxP_isSome (p := p) (rs := rs)
  rw [h] at h1
  have : (rs.any fun r => decide (gkey r.pic = gkey p)) = true := List.any_eq_true.2 ⟨r, hr, decide_eq_true ((gkey_iff (ho r hr).1.2.1).2 e)⟩
  rw [this] at h1
  cases h1
theorem RInv.add {ps : List Pic} {rs : List Row} (h : RInv ps rs) (pok : ∀ p ∈ ps, OkP p) {m : Int} {f : Str × Pic} (hf : f.2 ∈ ps) : RInv ps (addFile m rs f) := by
  unfold addFile
  split
  · split
    · rename_i r hr
      exact h.congr (set_pic hr rfl)
    · exact h
  · rename_i hi
    refine ⟨fun r hr => ?_, ?_⟩
    · rcases List.mem_append.1 hr with hr | hr
      · exact h.pin r hr
      · simp at hr; subst hr; exact hf
    · rw [List.map_append, List.nodup_append]
      refine ⟨h.nd, by simp, ?_⟩
      intro a ha b hb
      simp at hb
      subst hb
      exact fun e => idxP_none_gr hi (fun r hr => pok _ (h.pin r hr)) (e ▸ ha)
theorem RInv.fold {ps : List Pic} (pok : ∀ p ∈ ps, OkP p) {m : Int} : ∀ {fs : List (Str × Pic)} {rs : List Row}, RInv ps rs → (∀ f ∈ fs, f.2 ∈ ps) → RInv ps (fs.foldl (addFile m) rs)
  | [], rs, h, _ => h
  | f :: fs, rs, h, hf => RInv.fold pok (fs := fs) (h.add pok (hf f (List.mem_cons_self ..))) fun g hg => hf g (List.mem_cons_of_mem _ hg)
theorem RInv.take {ps : List Pic} {rs : List Row} (h : RInv ps rs) (pok : ∀ p ∈ ps, OkP p) (m : Int) {fs : List (Str × Pic)} (hf : ∀ f ∈ fs, f.2 ∈ ps) : RInv ps (takeRows m rs fs) :=
  RInv.fold pok (h.congr (by simp [Function.comp_def])) hf
theorem RInv.cnt {ps : List Pic} {rs : List Row} (h : RInv ps rs) (pok : ∀ p ∈ ps, OkP p) {fs : List (Str × Pic)} (hf : ∀ f ∈ fs, f.2 ∈ ps) : rs.length + cntN rs fs ≤ ps.length := by
  have := (h.take pok 0 hf).len
  rw [takeRows_len] at this
  exact this
theorem RInv.idx {ps : List Pic} {rs : List Row} (h : RInv ps rs) (pok : ∀ p ∈ ps, OkP p) {i : Nat} {r : Row} (hr : rs[i]? = some r) : idxP rs r.pic = some i := by
  refine idxP_get hr rfl fun j q hj hq e => ?_
  have hil := (List.getElem?_eq_some_iff.1 hr).1
  have hjl := (List.getElem?_eq_some_iff.1 hq).1
  have := List.pairwise_iff_getElem.1 h.nd j i (by simpa using hjl) (by simpa using hil) hj
  have e1 : rs[j] = q := (List.getElem?_eq_some_iff.1 hq).2
  have e2 : rs[i] = r := (List.getElem?_eq_some_iff.1 hr).2
  simp only [List.getElem_map, e1, e2] at this
  exact this ((gkey_iff (pok _ (h.pin q (List.mem_of_getElem? hq))).1.2.1).1 e)
theorem fold_all {m : Int} {Q : Row → Prop} (h1 : ∀ r zs, Q r → Q { r with places := zs }) : ∀ {fs : List (Str × Pic)} {rs : List Row}, (∀ r ∈ rs, Q r) → (∀ f ∈ fs, Q ⟨f.2, [f.1], [], [], 0, m⟩) → ∀ r ∈ fs.foldl (addFile m) rs, Q r
  | [], rs, h, _ => h
  | f :: fs, rs, h, h2 => by
    refine fold_all h1 (fs := fs) (fun r hr => ?_) fun g hg => h2 g (List.mem_cons_of_mem _ hg)
    unfold addFile at hr
    split at hr
    · split at hr
      · rename_i q hq
        rcases List.mem_or_eq_of_mem_set hr with hr | rfl
        · exact h r hr
        · exact h1 q _ (h q (List.mem_of_getElem? hq))
      · exact h r hr
    · rcases List.mem_append.1 hr with hr | hr
      · exact h r hr
      · simp at hr; subst hr; exact h2 f (List.mem_cons_self ..)
theorem take_all {m : Int} {Q : Row → Prop} (h1 : ∀ r zs, Q r → Q { r with places := zs }) {fs : List (Str × Pic)} {rs : List Row} (h : ∀ r ∈ rs, Q r) (h2 : ∀ f ∈ fs, Q ⟨f.2, [f.1], [], [], 0, m⟩) : ∀ r ∈ takeRows m rs fs, Q r :=
  fold_all h1 (fun r hr => by obtain ⟨q, hq, rfl⟩ := List.mem_map.1 hr; exact h1 q [] (h q hq)) h2
theorem fold_pl {m : Int} : ∀ {fs : List (Str × Pic)} {rs : List Row} {c : Nat}, (∀ r ∈ rs, r.places.length ≤ c) → ∀ r ∈ fs.foldl (addFile m) rs, r.places.length ≤ c + fs.length
  | [], rs, c, h => h
  | f :: fs, rs, c, h => fun r hr => by
    have := fold_pl (fs := fs) (rs := addFile m rs f) (c := c + 1) (addFile_pl h) r hr
    simp only [List.length_cons]
    omega
theorem take_rowOk {m : Int} {fs : List (Str × Pic)} {rs : List Row} (h : ∀ r ∈ rs, RowOk r) (hf : FilesOk fs) : ∀ r ∈ takeRows m rs fs, RowOk r := by
  intro r hr
  have h1 := take_all (m := m) (Q := fun r => Fits r.pic r.deeds ∧ okS r.marks = true) (fun r zs h => h) (fun r hr => ⟨(h r hr).fit, (h r hr).om⟩) (fun f hf' => ⟨⟨hf.pc f hf', rfl, f.2.1, rfl⟩, rfl⟩) r hr
  have h2 := fold_ok (m := m) (fs := fs) (rs := rs.map clr) (fun f hf' => (placeOk_iff.1 (hf.pl f hf')).2.2.2.2.1) (fun r hr => by obtain ⟨q, _, rfl⟩ := List.mem_map.1 hr; rfl) r hr
  have h3 := fold_pl (m := m) (fs := fs) (rs := rs.map clr) (c := 0) (fun r hr => by obtain ⟨q, _, rfl⟩ := List.mem_map.1 hr; simp) r hr
  exact ⟨h1.1, h1.2, h2, by have := hf.len; omega⟩
/-! ### number_of -/
theorem G_numberOf {S : Sto} {x : HIx} {t : HSt} (h : HallAt S x t) {p : Pic} (hp : OkP p) {i : Nat} (hi : idxP t.rows p = some i) : F_Hall_number_of [.ref x.h, gr p] S = .ok (.int i) S := by
  show bodyRes (b_Hall_number_of [some (.ref x.h), some (gr p)] S) = _
  unfold b_Hall_number_of
  rw [sq_f (S1 := S) (by simp [F_pic_gr hp]), sq_f (S1 := S) (by simp [h.by_, h.inBy, hi])]
  simp [sRet, h.by_, h.getBy hi]
theorem shown_nil (p : Pic) : gr (shownP p []) = gr p := rfl
/-! a step with the draws in front -/
theorem step_lift {n : Nat} {R S' : Sto} {x x' : HIx} {k k' : Nat} (z : ¬ own x k 0) (s : Step (Tn n R) S' x x' k k') : ∃ R', S' = Tn n R' ∧ StR R R' x x' k k' ∧ ¬ own x' k' 0 := by
  have h0 := s.old 0 (by simp) z
  cases S' with
  | nil => simp at h0
  | cons o R' =>
    simp at h0
    subst h0
    have z' : ¬ own x' k' 0 := fun o => by
      rcases s.new 0 o with o | o
      · exact z o
      · simp at o
    refine ⟨R', rfl, ⟨s.hh, ?_, fun i hi ho => ?_, fun i o => ?_⟩, z'⟩
    · have := s.len; simpa using this
    · cases i with
      | zero => rfl
      | succ i => exact s.old (i + 1) (by simpa using hi) ho
    · rcases s.new i o with o | o
      · exact .inl o
      · right; simpa using o
structure MoA (R : Sto) (x : HIx) (t : HSt) : Prop where
  h0 : ModAt (Tn 0 R) x t
  z : ¬ own x t.n 0
theorem MoA.at {R : Sto} {x : HIx} {t : HSt} (h : MoA R x t) (n : Nat) : ModAt (Tn n R) x t := h.h0.congr fun i o => by
  cases i with
  | zero => exact absurd o h.z
  | succ i => rfl
theorem MoA.of {n : Nat} {R : Sto} {x : HIx} {t : HSt} (h : ModAt (Tn n R) x t) (z : ¬ own x t.n 0) : MoA R x t :=
  ⟨h.congr fun i o => by
    cases i with
    | zero => exact absurd o z
    | succ i => rfl, z⟩
theorem MoA.app {R : Sto} {x : HIx} {t : HSt} (h : MoA R x t) (os : Sto) : MoA (R ++ os) x t := ⟨h.h0.app os, h.z⟩
/-- two things in one store -/
def Dj (x y : HIx) (n k : Nat) : Prop := ∀ i, own x n i → ¬ own y k i
theorem MoA.step {R R' : Sto} {x x' y : HIx} {t : HSt} {n n' : Nat} (h : MoA R y t) (d : Dj x y n t.n) (s : StR R R' x x' n n') : MoA R' y t ∧ Dj x' y n' t.n := by
  refine ⟨⟨h.h0.congr fun i o => s.old i (h.h0.lt o) fun ox => d i ox o, h.z⟩, fun i ox oy => ?_⟩
  rcases s.new i ox with ox | hl
  · exact d i ox oy
  · have := h.h0.lt oy; omega
theorem HA.step {R R' : Sto} {x x' y : HIx} {t : HSt} {n n' : Nat} (h : HA R y t) (d : Dj x y n t.n) (s : StR R R' x x' n n') : HA R' y t ∧ Dj x' y n' t.n := by
  refine ⟨⟨h.h0.congr fun i o => s.old i (h.h0.lt o) fun ox => d i ox o, h.z⟩, fun i ox oy => ?_⟩
  rcases s.new i ox with ox | hl
  · exact d i ox oy
  · have := h.h0.lt oy; omega
theorem Dj.symm {x y : HIx} {n k : Nat} (h : Dj x y n k) : Dj y x k n := fun i oy ox => h i ox oy
end Py
set_option maxRecDepth 100000
set_option maxHeartbeats 4000000
namespace Py
open PySem PySem.Spec PyProof.Rows L2
structure Mods (K : PySem.W.Frag) (mg : Str → Option Value) : Prop where
  c_FILES : ∃ t, mg "FILES" = some (.int 60 t)
  c_GREAT : ∃ t, mg "GREAT" = some (.int 9 t)
  c_LETTERS : ∃ t, mg "LETTERS" = some (.str "abcdefghijklmnopqrstuvwxyz" t)
  c_LONGEST : ∃ t, mg "LONGEST" = some (.int 6 t)
  c_MOMENTS : ∃ t, mg "MOMENTS" = some (.int 999 t)
  c_PICTURES : ∃ t, mg "PICTURES" = some (.int 60 t)
  c_PLACE : ∃ t, mg "PLACE" = some (.int 20 t)
  c_SIDE : ∃ t, mg "SIDE" = some (.int 8 t)
  x_Full : ExcF K mg "Full"
  x_NoCut : ExcF K mg "NoCut"
  x_NoFiles : ExcF K mg "NoFiles"
  x_NoNumber : ExcF K mg "NoNumber"
  x_NoPicture : ExcF K mg "NoPicture"
  hall_ : ∃ C, mg "HallError" = some (.ref C)
  w_NoPicture : WRow K mg "NoPicture" 0
  w_NoCut : WRow K mg "NoCut" 3
  w_NoNumber : WRow K mg "NoNumber" 4
  w_NoFiles : WRow K mg "NoFiles" 8
  w_Full : WRow K mg "Full" 11
  hallC : HallC K mg
  nr : NoAttr K (hallA K) "rows"
  nb : NoAttr K (hallA K) "by"
  np : NoAttr K (hallA K) "past"
  mkH : PySem.W.makesIn K (hallA K) = true
  kpH : PySem.W.keepIn K (.ref (hallA K)) = true
  ok_ : True
abbrev wL : List (Str × Nat) := [("NoPicture", 0), ("NoCut", 3), ("NoNumber", 4), ("NoFiles", 8), ("Full", 11)]
theorem rows_ok {K : PySem.W.Frag} {mg : Str → Option Value} (M : Mods K mg) : RowsOk K mg wL := (rows_cons M.w_NoPicture (by decide) (rows_cons M.w_NoCut (by decide) (rows_cons M.w_NoNumber (by decide) (rows_cons M.w_NoFiles (by decide) (rows_cons M.w_Full (by decide) rows_nil)))))
noncomputable def b_law_new : MS :=
  (sRet (eDictS [.inr "rows", .inr "past"] (aCons (eNewL aNil) (aCons (eNewL aNil) aNil))))
noncomputable def F_law_new : List D → Sto → Res D := fnS 0 0 b_law_new
noncomputable def b_law_take : MS :=
  (sSeq (sSet 3 (e2 dgetS (eVar 0) (eC (.str "rows"))))
    (sSeq (sSet 4 (eComp [5] (iSeq (eVar 3)) (gN 5) tTrue (eCall listD (aCons (e2 dgetS (eVar 5) (eC (.str "places"))) aNil))))
    (sSeq (sFor (iSeq (eVar 3)) (gN 5)
    (sDputS (eNewL aNil) (eVar 5) (eC (.str "places"))))
    (sSeq (sFor (iSeq (eVar 2)) (gT 2 (gsC (gN 6) (gsC (gN 7) gs0)))
    (sSeq (sSet 10 (eComp [5] (iSeq (eVar 3)) (gN 5) (tVal (e2 (eqD false) (e2 dgetS (eVar 5) (eC (.str "first"))) (eVar 7))) (eVar 5)))
    (sSeq (sIf (tVal (e2 (eqNilD false) (eVar 10) (eLst aNil)))
    (sSeq (sSet 10 (eLst (aCons (eDictS [.inr "first", .inr "places", .inr "deeds", .inr "marks", .inr "stars", .inr "moment"] (aCons (eVar 7) (aCons (eNewL aNil) (aCons (eTup aNil) (aCons (eNewL aNil) (aCons (eC (.int 0)) (aCons (eVar 1) aNil))))))) aNil)))
    (sExpr (eMethL appendD (eVar 3) (aCons (e2 ixD (eVar 10) (eC (.int 0))) aNil))))
    sNil)
    (sExpr (eMethL appendD (e2 dgetS (e2 ixD (eVar 10) (eC (.int 0))) (eC (.str "places"))) (aCons (eVar 6) aNil))))))
    (sSeq (sSet 8 (eTup (aCons (eNewL aNil) (aCons (eNewL aNil) (aCons (eNewL aNil) (aCons (eNewL aNil) aNil))))))
    (sSeq (sFor (iEnum' (aCons (eVar 3) aNil)) (gT 2 (gsC (gN 9) (gsC (gN 5) gs0)))
    (sIf (tVal (e2 geD (eVar 9) (eCall lenD (aCons (eVar 4) aNil))))
    (sExpr (eMethL appendD (e2 ixD (eVar 8) (eC (.int 0))) (aCons (eVar 9) aNil)))
    (sIf (tVal (e2 (eqD true) (e2 ixD (eVar 4) (eVar 9)) (e2 dgetS (eVar 5) (eC (.str "places")))))
    (sExpr (eMethL appendD (e2 ixD (eVar 8) (e2 ixD (eLst (aCons (eC (.int 1)) (aCons (eC (.int 2)) (aCons (eC (.int 3)) aNil)))) (e2 addD (eCall intD (aCons (e2 (eqD false) (e2 dgetS (eVar 5) (eC (.str "places"))) (eLst aNil)) aNil)) (e2 mulD (eC (.int 2)) (eCall intD (aCons (e2 (eqD false) (e2 ixD (eVar 4) (eVar 9)) (eLst aNil)) aNil)))))) (aCons (eVar 9) aNil)))
    sNil)))
    (sRet (eVar 8))))))))
noncomputable def F_law_take : List D → Sto → Res D := fnS 3 11 b_law_take
noncomputable def b_law_ask : MS :=
  (sTry (wOf wL) (sSeq (sIf (tVal (e2 (eqD false) (eVar 1) (eC (.str "take"))))
    (sRet (eMeth "take_in" F_Hall_take_in (eVar 0) (aCons (eVar 2) (aCons (eVar 3) aNil))))
    sNil)
    (sSeq (sIf (tVal (e2 (eqD false) (eVar 1) (eC (.str "change"))))
    sBad
    sNil)
    (sSeq (sIf (tVal (e2 (eqD false) (eVar 1) (eC (.str "without"))))
    sBad
    sNil)
    (sSeq (sIf (tVal (e2 (eqD false) (eVar 1) (eC (.str "like"))))
    sBad
    sNil)
    (sSeq (sIf (tVal (e2 (eqD false) (eVar 1) (eC (.str "plain"))))
    sBad
    sNil)
    (sSeq (sIf (tVal (e2 (eqD false) (eVar 1) (eC (.str "undo"))))
    sBad
    sNil)
    (sSeq (sIf (tVal (e2 (eqD false) (eVar 1) (eC (.str "mark"))))
    sBad
    sNil)
    (sSeq (sIf (tVal (e2 (eqD false) (eVar 1) (eC (.str "star"))))
    sBad
    sNil)
    (sSeq (sIf (tVal (e2 (eqD false) (eVar 1) (eC (.str "album"))))
    sBad
    sNil)
    sBad))))))))))
noncomputable def F_law_ask : List D → Sto → Res D := fnS 4 5 b_law_ask
noncomputable def b_law : MS :=
  (sSeq (sSet 1 (eNewL aNil))
    (sSeq (sSet 2 (eMake F_Hall_init))
    (sSeq (sSet 3 (eCall F_law_new aNil))
    (sSeq (sSet 4 (eCall F_law_pictures (aCons (eVar 0) (aCons (eVar 1) (aCons (eC (.int 8)) aNil)))))
    (sSeq (sFor (iRng1' (aCons (eCall F_law_draw (aCons (eVar 0) (aCons (eVar 1) (aCons (eC (.int 8)) aNil)))) aNil)) (gN 5)
    (sSeq (sSet 6 (eCall F_law_files (aCons (eVar 0) (aCons (eVar 1) (aCons (eVar 4) (aCons (eC (.int 10)) aNil))))))
    (sSeq (sIf (tVal (e2 (eqD true) (eCall F_law_ask (aCons (eVar 2) (aCons (eC (.str "take")) (aCons (eVar 5) (aCons (eVar 6) aNil))))) (eCall F_law_take (aCons (eVar 3) (aCons (eVar 5) (aCons (eVar 6) aNil))))))
    (sRet (eC (.bl false)))
    sNil)
    (sSeq (sIf (tVal (e2 (eqD true) (eMeth "numbers" F_Hall_numbers (eVar 2) aNil) (eCall lenD (aCons (e2 dgetS (eVar 3) (eC (.str "rows"))) aNil))))
    (sRet (eC (.bl false)))
    sNil)
    (sFor (iEnum' (aCons (e2 dgetS (eVar 3) (eC (.str "rows"))) aNil)) (gT 2 (gsC (gN 7) (gsC (gN 8) gs0)))
    (sSeq (sExpr (eMethL appendD (eMeth "places" F_Hall_places_N (eVar 2) (aCons (eVar 7) aNil)) (aCons (eC .non) aNil)))
    (sSeq (sIf (tOrM (tVal (e2 (eqD true) (eMeth "first" F_Hall_first (eVar 2) (aCons (eVar 7) aNil)) (e2 dgetS (eVar 8) (eC (.str "first"))))) (tVal (e2 (eqD true) (eMeth "places" F_Hall_places (eVar 2) (aCons (eVar 7) aNil)) (e2 dgetS (eVar 8) (eC (.str "places"))))))
    (sRet (eC (.bl false)))
    sNil)
    (sIf (tOrM (tVal (e2 (eqD true) (eMeth "number_of" F_Hall_number_of (eVar 2) (aCons (e2 dgetS (eVar 8) (eC (.str "first"))) aNil)) (eVar 7))) (tOrM (tVal (e2 (eqD true) (eMeth "shown" F_Hall_shown (eVar 2) (aCons (eVar 7) aNil)) (e2 dgetS (eVar 8) (eC (.str "first"))))) (tVal (e2 (eqD true) (eMeth "deeds" F_Hall_deeds (eVar 2) (aCons (eVar 7) aNil)) (eTup aNil)))))
    (sRet (eC (.bl false)))
    sNil))))))))
    (sRet (eC (.bl true))))))))
end Py
set_option maxRecDepth 100000
set_option maxHeartbeats 4000000
namespace Py
open PySem PySem.Spec PyProof.Rows L2
def topS (i : Nat) : Stmt := PySem.Challenge.pw_picturehall_k08_whole_taken_in.main.body.getD i (.Pass ⟨0, 0, 0, 0⟩)
abbrev s_law_which : Stmt := topS 70
abbrev N_law_which : List Str := ["e", "own"]
theorem sc_law_which : FnScope N_law_which ["e"] (defScope s_law_which) := ⟨rfl, rfl, rfl, by decide +kernel, rfl, by decide +kernel, by decide +kernel⟩
theorem d_law_which {P : Program} {w : World} {K : PySem.W.Frag} {mg : Str → Option Value} {base : Heap} (z : Free mg) (M : Mods K mg) (T : At0 K mg "_law_which" s_law_which ["e"]) :
    WhichF P w K mg base 1 (wOf wL) := by
  obtain ⟨f, fd, Fn, hm, hk, hbd⟩ := T.parts
  refine which_mk Fn hm hk hbd sc_law_which fun cdv A outer s H E p c C d hot hr hz hf hc hd => ?_
  obtain ⟨j, ej, rfl⟩ := wOf_some hd
  obtain ⟨⟨C0, h1, hE, hV, _, ⟨C1, m1, q1⟩, ⟨C2, m2, q2⟩, ⟨C3, m3, q3⟩, ⟨C4, m4, q4⟩, ⟨C5, m5, q5⟩, ⟨C6, m6, q6⟩, ⟨C7, m7, q7⟩, ⟨C8, m8, q8⟩, ⟨C9, m9, q9⟩, ⟨C10, m10, q10⟩, ⟨C11, m11, q11⟩, ⟨C12, m12, q12⟩, ⟨C13, m13, q13⟩⟩, hj⟩ := rows_ok M c j ej
  rw [hc] at h1; cases h1
  refine ⟨b_which p.1 j, ?_, fun S => which_leaves p.1 j hj S⟩
  have hp : (p.1, p.2) ∈ (L2H.cxH (L2N.CX P w) P w K mg base N_law_which "_law_which" (defScope s_law_which) f cdv A outer s H E p).pn := List.mem_cons_self ..
  have hu : (L2H.cxH (L2N.CX P w) P w K mg base N_law_which "_law_which" (defScope s_law_which) f cdv A outer s H E p).A.units + 65 < cLine := by have := hr.un; omega
  exact
    (sb_cons (ss_set (i := 1) sc_law_which.nd rfl (by first | exact Or.inl rfl | exact Or.inr rfl) (se_newL (sa_cons (se_isE hE hz hf hp (by rfl) z.isinstance_ bt_isinstance (pe_var rfl (Or.inl rfl)) (by rfl) m1 q1) (sa_cons (se_isE hE hz hf hp (by rfl) z.isinstance_ bt_isinstance (pe_var rfl (Or.inl rfl)) (by rfl) m2 q2) (sa_cons (se_isE hE hz hf hp (by rfl) z.isinstance_ bt_isinstance (pe_var rfl (Or.inl rfl)) (by rfl) m3 q3) (sa_cons (se_isE hE hz hf hp (by rfl) z.isinstance_ bt_isinstance (pe_var rfl (Or.inl rfl)) (by rfl) m4 q4) sa_nil))))))
    (sb_cons (ss_expr (se_methL PySem.F.slot_list_extend PySem.F.type_list_extend mt_extA o_extend (se_var 1) (sa_cons (se_lst (sa_cons (se_isE hE hz hf hp (by rfl) z.isinstance_ bt_isinstance (pe_var rfl (Or.inl rfl)) (by rfl) m5 q5) (sa_cons (se_isE hE hz hf hp (by rfl) z.isinstance_ bt_isinstance (pe_var rfl (Or.inl rfl)) (by rfl) m6 q6) (sa_cons (se_isE hE hz hf hp (by rfl) z.isinstance_ bt_isinstance (pe_var rfl (Or.inl rfl)) (by rfl) m7 q7) (sa_cons (se_isE hE hz hf hp (by rfl) z.isinstance_ bt_isinstance (pe_var rfl (Or.inl rfl)) (by rfl) m8 q8) sa_nil))))) sa_nil)))
    (sb_cons (ss_expr (se_methL PySem.F.slot_list_extend PySem.F.type_list_extend mt_extA o_extend (se_var 1) (sa_cons (se_lst (sa_cons (se_isE hE hz hf hp (by rfl) z.isinstance_ bt_isinstance (pe_var rfl (Or.inl rfl)) (by rfl) m9 q9) (sa_cons (se_isE hE hz hf hp (by rfl) z.isinstance_ bt_isinstance (pe_var rfl (Or.inl rfl)) (by rfl) m10 q10) (sa_cons (se_isE hE hz hf hp (by rfl) z.isinstance_ bt_isinstance (pe_var rfl (Or.inl rfl)) (by rfl) m11 q11) (sa_cons (se_isE hE hz hf hp (by rfl) z.isinstance_ bt_isinstance (pe_var rfl (Or.inl rfl)) (by rfl) m12 q12) sa_nil))))) sa_nil)))
    (sb_cons (ss_expr (se_methL PySem.F.slot_list_append PySem.F.type_list_append mt_append o_append (se_var 1) (sa_cons (se_isE hE hz hf hp (by rfl) z.isinstance_ bt_isinstance (pe_var rfl (Or.inl rfl)) (by rfl) m13 q13) sa_nil)))
    (sb_cons (ss_if (st_bool (sw_or (st_cmp (op_neD (by omega)) o_ne (se_methL PySem.F.slot_list_count PySem.F.type_list_count (mt_countD hu) o_count (se_var 1) (sa_cons se_bl sa_nil)) se_int (nomark _)) (sw_or1 (st_not (st_val (se_isB hE hz hf hp (by rfl) z.isinstance_ bt_isinstance (pe_var rfl (Or.inl rfl)) (by rfl) z.ve_ bt_ve hV))))))
    (sb_one (ss_ret (se_tup (sa_cons se_str (sa_cons (se_un un_neg o_neg se_int) sa_nil)))))
    sb_nil)
    (sb_one (ss_ret (se_tup (sa_cons se_str (sa_cons (se_methL PySem.F.slot_list_index PySem.F.type_list_index (mt_indexD hu) o_index (se_var 1) (sa_cons se_bl sa_nil)) sa_nil))))))))))
abbrev s_is_whole : Stmt := topS 19
abbrev N_is_whole : List Str := ["thing", "low", "most"]
theorem sc_is_whole : FnScope N_is_whole ["thing", "low", "most"] (defScope s_is_whole) := ⟨rfl, rfl, rfl, by decide +kernel, rfl, by decide +kernel, by decide +kernel⟩
theorem d_is_whole {P : Program} {w : World} {K : PySem.W.Frag} {mg : Str → Option Value} {base : Heap} (z : Free mg) (M : Mods K mg)  :
    BodyOk P w K mg base N_is_whole s_is_whole 0 b_is_whole := by
  intro qual f cdv A outer s H E hr tk hp
  exact
    (sb_one (ss_ret (se_and (se_callB call_isi o_isi (by rfl) z.isinstance_ bt_isinstance (sa_cons (se_var 0) (sa_cons (se_bty (by rfl) z.int_ bt_int) sa_nil))) (se_and (se_not (se_callB call_isi o_isi (by rfl) z.isinstance_ bt_isinstance (sa_cons (se_var 0) (sa_cons (se_bty (by rfl) z.bool_ bt_bool) sa_nil)))) (se_one (se_chain op_leA op_leA o_cmpI o_cmpI (se_var 1) (se_var 0) (se_var 2)))))))
abbrev s_turned_rows : Stmt := topS 22
abbrev N_turned_rows : List Str := ["rows", "k", "row"]
theorem sc_turned_rows : FnScope N_turned_rows ["rows"] (defScope s_turned_rows) := ⟨rfl, rfl, rfl, by decide +kernel, rfl, by decide +kernel, by decide +kernel⟩
theorem d_turned_rows {P : Program} {w : World} {K : PySem.W.Frag} {mg : Str → Option Value} {base : Heap} (z : Free mg) (M : Mods K mg)  :
    BodyOk P w K mg base N_turned_rows s_turned_rows 0 b_turned_rows := by
  intro qual f cdv A outer s H E hr tk hp
  exact
    (sb_one (ss_ret (se_callTy call_tuple_of o_tuple (by rfl) z.tuple_ bt_tuple (sa_cons (se_lc (own := [("k", 1)]) rfl sc_turned_rows.nd (si_range1 (by rfl) z.range_ (sa_cons (se_callB call_len o_len (by rfl) z.len_ bt_len (sa_cons (se_ix ix_seq o_ix (se_var 0) se_int (fun _ _ => rfl)) sa_nil)) sa_nil)) (blkOk_by (by kernel_rfl)) (by simp) (fun _ _ _ _ _ => (sg_name (i := 1) sc_turned_rows.nd rfl (by first | exact Or.inl rfl | exact Or.inr rfl))) (fun _ _ _ _ _ => sts_nil) (fun _ _ _ _ _ => (se_callTy call_tuple_of o_tuple (by rfl) z.tuple_ bt_tuple (sa_cons (se_lc (own := [("row", 2)]) rfl sc_turned_rows.nd (si_seq (se_rev (se_var 0))) (blkOk_by (by kernel_rfl)) (by simp) (fun _ _ _ _ _ => (sg_name (i := 2) sc_turned_rows.nd rfl (by first | exact Or.inl rfl | exact Or.inr rfl))) (fun _ _ _ _ _ => sts_nil) (fun _ _ _ _ _ => (se_ix ix_seq o_ix (se_var 2) (se_var 1) (fun _ _ => rfl)))) sa_nil)))) sa_nil))))
abbrev s_mirrored_rows : Stmt := topS 23
abbrev N_mirrored_rows : List Str := ["rows", "row"]
theorem sc_mirrored_rows : FnScope N_mirrored_rows ["rows"] (defScope s_mirrored_rows) := ⟨rfl, rfl, rfl, by decide +kernel, rfl, by decide +kernel, by decide +kernel⟩
theorem d_mirrored_rows {P : Program} {w : World} {K : PySem.W.Frag} {mg : Str → Option Value} {base : Heap} (z : Free mg) (M : Mods K mg)  :
    BodyOk P w K mg base N_mirrored_rows s_mirrored_rows 0 b_mirrored_rows := by
  intro qual f cdv A outer s H E hr tk hp
  exact
    (sb_one (ss_ret (se_callTy call_tuple_of o_tuple (by rfl) z.tuple_ bt_tuple (sa_cons (se_lc (own := [("row", 1)]) rfl sc_mirrored_rows.nd (si_seq (se_var 0)) (blkOk_by (by kernel_rfl)) (by simp) (fun _ _ _ _ _ => (sg_name (i := 1) sc_mirrored_rows.nd rfl (by first | exact Or.inl rfl | exact Or.inr rfl))) (fun _ _ _ _ _ => sts_nil) (fun _ _ _ _ _ => (se_rev (se_var 1)))) sa_nil))))
abbrev s_lit : Stmt := topS 32
abbrev N_lit : List Str := ["worths", "deed", "worth"]
theorem sc_lit : FnScope N_lit ["worths", "deed"] (defScope s_lit) := ⟨rfl, rfl, rfl, by decide +kernel, rfl, by decide +kernel, by decide +kernel⟩
theorem d_lit {P : Program} {w : World} {K : PySem.W.Frag} {mg : Str → Option Value} {base : Heap} (z : Free mg) (M : Mods K mg)  :
    BodyOk P w K mg base N_lit s_lit 0 b_lit := by
  intro qual f cdv A outer s H E hr tk hp
  exact
    (sb_cons (ss_if (st_cmp (op_eqD hr.units) o_eq (se_ix ix_seq o_ix (se_var 1) se_int (fun _ _ => rfl)) se_str (nomark _))
    (sb_one (ss_ret (se_callTy call_tuple_of o_tuple (by rfl) z.tuple_ bt_tuple (sa_cons (se_lc (own := [("worth", 2)]) rfl sc_lit.nd (si_seq (se_var 0)) (blkOk_by (by kernel_rfl)) (by simp) (fun _ _ _ _ _ => (sg_name (i := 2) sc_lit.nd rfl (by first | exact Or.inl rfl | exact Or.inr rfl))) (fun _ _ _ _ _ => sts_nil) (fun _ _ _ _ _ => (se_op op_sub o_sub (se_gintE (by rfl) M.c_GREAT) (se_var 2)))) sa_nil))))
    sb_nil)
    (sb_cons (ss_if (st_cmp (op_eqD hr.units) o_eq (se_ix ix_seq o_ix (se_var 1) se_int (fun _ _ => rfl)) se_str (nomark _))
    (sb_one (ss_ret (se_callTy call_tuple_of o_tuple (by rfl) z.tuple_ bt_tuple (sa_cons (se_lc (own := [("worth", 2)]) rfl sc_lit.nd (si_seq (se_var 0)) (blkOk_by (by kernel_rfl)) (by simp) (fun _ _ _ _ _ => (sg_name (i := 2) sc_lit.nd rfl (by first | exact Or.inl rfl | exact Or.inr rfl))) (fun _ _ _ _ _ => sts_nil) (fun _ _ _ _ _ => (se_callB (call_maxA rfl) o_max (by rfl) z.max_ bt_max (sa_cons se_int (sa_cons (se_callB (call_minA rfl) o_min (by rfl) z.min_ bt_min (sa_cons (se_gintE (by rfl) M.c_GREAT) (sa_cons (se_op op_addA o_add (se_var 2) (se_ix ix_seq o_ix (se_var 1) se_int (fun _ _ => rfl))) sa_nil))) sa_nil))))) sa_nil))))
    sb_nil)
    (sb_one (ss_ret (se_var 0)))))
abbrev s_is_word : Stmt := topS 48
abbrev N_is_word : List Str := ["thing"]
theorem sc_is_word : FnScope N_is_word ["thing"] (defScope s_is_word) := ⟨rfl, rfl, rfl, by decide +kernel, rfl, by decide +kernel, by decide +kernel⟩
theorem d_is_word {P : Program} {w : World} {K : PySem.W.Frag} {mg : Str → Option Value} {base : Heap} (z : Free mg) (M : Mods K mg)  :
    BodyOk P w K mg base N_is_word s_is_word 0 b_is_word := by
  intro qual f cdv A outer s H E hr tk hp
  exact
    (sb_one (ss_ret (se_and (se_callB call_isi o_isi (by rfl) z.isinstance_ bt_isinstance (sa_cons (se_var 0) (sa_cons (se_bty (by rfl) z.str_ bt_str) sa_nil))) (se_and (se_chain op_leA op_leA o_cmpI o_cmpI se_int (se_callB call_len o_len (by rfl) z.len_ bt_len (sa_cons (se_var 0) sa_nil)) (se_gintE (by rfl) M.c_LONGEST)) (se_one (se_cmp (op_eqD hr.units) o_eq (st_strip (se_var 0) (se_gstrE (by rfl) M.c_LETTERS)) se_str (nomark _)))))))
abbrev s_Hall_init : Stmt := inClass (topS 58) 0
abbrev N_Hall_init : List Str := ["self"]
theorem sc_Hall_init : FnScope N_Hall_init ["self"] (defScope s_Hall_init) := ⟨rfl, rfl, rfl, by decide +kernel, rfl, by decide +kernel, by decide +kernel⟩
theorem d_Hall_init {P : Program} {w : World} {K : PySem.W.Frag} {mg : Str → Option Value} {base : Heap} (z : Free mg) (M : Mods K mg)  :
    BodyOk P w K mg base N_Hall_init s_Hall_init 0 b_Hall_init := by
  intro qual f cdv A outer s H E hr tk hp
  exact
    (sb_cons (ss_fld M.hallC M.nr (se_newL sa_nil) (se_var 0))
    (sb_cons (ss_fld M.hallC M.nb se_newP (se_var 0))
    (sb_one (ss_fld M.hallC M.np (se_newL sa_nil) (se_var 0)))))
abbrev s_Hall_told_of : Stmt := inClass (topS 58) 2
abbrev N_Hall_told_of : List Str := ["self", "before", "after", "numbers", "news", "moved", "lost", "found", "row", "k"]
theorem sc_Hall_told_of : FnScope N_Hall_told_of ["self", "before"] (defScope s_Hall_told_of) := ⟨rfl, rfl, rfl, by decide +kernel, rfl, by decide +kernel, by decide +kernel⟩
theorem d_Hall_told_of {P : Program} {w : World} {K : PySem.W.Frag} {mg : Str → Option Value} {base : Heap} (z : Free mg) (M : Mods K mg)  :
    BodyOk P w K mg base N_Hall_told_of s_Hall_told_of 0 b_Hall_told_of := by
  intro qual f cdv A outer s H E hr tk hp
  exact
    (sb_cons (ss_set (i := 2) sc_Hall_told_of.nd rfl (by first | exact Or.inl rfl | exact Or.inr rfl) (se_lc (own := [("row", 8)]) rfl sc_Hall_told_of.nd (si_seq (se_fld M.hallC M.nr (se_var 0))) (blkOk_by (by kernel_rfl)) (by simp) (fun _ _ _ _ _ => (sg_name (i := 8) sc_Hall_told_of.nd rfl (by first | exact Or.inl rfl | exact Or.inr rfl))) (fun _ _ _ _ _ => sts_nil) (fun _ _ _ _ _ => (se_dgetS hr (se_var 8) se_str))))
    (sb_cons (ss_set (i := 3) sc_Hall_told_of.nd rfl (by first | exact Or.inl rfl | exact Or.inr rfl) (se_lstR rfl (by rfl) z.list_ (sr_1 (by rfl) z.range_ (se_callB call_len o_len (by rfl) z.len_ bt_len (sa_cons (se_var 1) sa_nil)))))
    (sb_cons (ss_set (i := 4) sc_Hall_told_of.nd rfl (by first | exact Or.inl rfl | exact Or.inr rfl) (se_lstR rfl (by rfl) z.list_ (sr_2 (by rfl) z.range_ (se_callB call_len o_len (by rfl) z.len_ bt_len (sa_cons (se_var 1) sa_nil)) (se_callB call_len o_len (by rfl) z.len_ bt_len (sa_cons (se_var 2) sa_nil)))))
    (sb_cons (ss_setLc (i := 5) (own := [("k", 9)]) rfl sc_Hall_told_of.nd rfl rfl (sw_true rfl rfl rfl (by decide +kernel)) (si_seq (se_var 3)) (blkOk_by (by kernel_rfl)) (by simp) (fun _ _ _ _ _ => (sg_name (i := 9) sc_Hall_told_of.nd rfl (by first | exact Or.inl rfl | exact Or.inr rfl))) (fun _ _ _ _ _ => (sts_one (st_bool (sw_and (st_cmp (op_neD hr.units) o_ne (se_ix ix_seq o_ix (se_var 1) (se_var 9) (fun _ _ => rfl)) (se_lst sa_nil) (nomark _)) (sw_and (st_cmp (op_neD hr.units) o_ne (se_ix ix_seq o_ix (se_var 2) (se_var 9) (fun _ _ => rfl)) (se_lst sa_nil) (nomark _)) (sw_and1 (st_cmp (op_neD hr.units) o_ne (se_ix ix_seq o_ix (se_var 1) (se_var 9) (fun _ _ => rfl)) (se_ix ix_seq o_ix (se_var 2) (se_var 9) (fun _ _ => rfl)) (nomark _)))))))) (fun _ _ _ _ _ => (se_var 9)))
    (sb_cons (ss_setLc (i := 6) (own := [("k", 9)]) rfl sc_Hall_told_of.nd rfl rfl (sw_true rfl rfl rfl (by decide +kernel)) (si_seq (se_var 3)) (blkOk_by (by kernel_rfl)) (by simp) (fun _ _ _ _ _ => (sg_name (i := 9) sc_Hall_told_of.nd rfl (by first | exact Or.inl rfl | exact Or.inr rfl))) (fun _ _ _ _ _ => (sts_one (st_bool (sw_and (st_cmp (op_neD hr.units) o_ne (se_ix ix_seq o_ix (se_var 1) (se_var 9) (fun _ _ => rfl)) (se_lst sa_nil) (nomark _)) (sw_and1 (st_cmp (op_eqD hr.units) o_eq (se_ix ix_seq o_ix (se_var 2) (se_var 9) (fun _ _ => rfl)) (se_lst sa_nil) (nomark _))))))) (fun _ _ _ _ _ => (se_var 9)))
    (sb_cons (ss_setLc (i := 7) (own := [("k", 9)]) rfl sc_Hall_told_of.nd rfl rfl (sw_true rfl rfl rfl (by decide +kernel)) (si_seq (se_var 3)) (blkOk_by (by kernel_rfl)) (by simp) (fun _ _ _ _ _ => (sg_name (i := 9) sc_Hall_told_of.nd rfl (by first | exact Or.inl rfl | exact Or.inr rfl))) (fun _ _ _ _ _ => (sts_one (st_bool (sw_and (st_cmp (op_eqD hr.units) o_eq (se_ix ix_seq o_ix (se_var 1) (se_var 9) (fun _ _ => rfl)) (se_lst sa_nil) (nomark _)) (sw_and1 (st_cmp (op_neD hr.units) o_ne (se_ix ix_seq o_ix (se_var 2) (se_var 9) (fun _ _ => rfl)) (se_lst sa_nil) (nomark _))))))) (fun _ _ _ _ _ => (se_var 9)))
    (sb_one (ss_ret (se_tup (sa_cons (se_var 4) (sa_cons (se_var 5) (sa_cons (se_var 6) (sa_cons (se_var 7) sa_nil)))))))))))))
abbrev s_Hall_numbers : Stmt := inClass (topS 58) 4
abbrev N_Hall_numbers : List Str := ["self"]
theorem sc_Hall_numbers : FnScope N_Hall_numbers ["self"] (defScope s_Hall_numbers) := ⟨rfl, rfl, rfl, by decide +kernel, rfl, by decide +kernel, by decide +kernel⟩
theorem d_Hall_numbers {P : Program} {w : World} {K : PySem.W.Frag} {mg : Str → Option Value} {base : Heap} (z : Free mg) (M : Mods K mg)  :
    BodyOk P w K mg base N_Hall_numbers s_Hall_numbers 0 b_Hall_numbers := by
  intro qual f cdv A outer s H E hr tk hp
  exact
    (sb_one (ss_ret (se_callB call_len o_len (by rfl) z.len_ bt_len (sa_cons (se_fld M.hallC M.nr (se_var 0)) sa_nil))))
abbrev s_law_cell_at : Stmt := topS 60
abbrev N_law_cell_at : List Str := ["script", "k"]
theorem sc_law_cell_at : FnScope N_law_cell_at ["script", "k"] (defScope s_law_cell_at) := ⟨rfl, rfl, rfl, by decide +kernel, rfl, by decide +kernel, by decide +kernel⟩
theorem d_law_cell_at {P : Program} {w : World} {K : PySem.W.Frag} {mg : Str → Option Value} {base : Heap} (z : Free mg) (M : Mods K mg)  :
    BodyOk P w K mg base N_law_cell_at s_law_cell_at 0 b_law_cell_at := by
  intro qual f cdv A outer s H E hr tk hp
  exact
    (sb_cons (ss_if (st_cmp op_ltA o_cmpI (se_var 1) (se_callB call_len o_len (by rfl) z.len_ bt_len (sa_cons (se_var 0) sa_nil)) (nomark _))
    (sb_one (ss_ret (se_ix ix_seq o_ix (se_var 0) (se_var 1) (fun _ _ => rfl))))
    sb_nil)
    (sb_cons (ss_if (st_cmp (op_eqD hr.units) o_eq (se_var 0) (se_lst sa_nil) (nomark _))
    (sb_one (ss_ret se_int))
    sb_nil)
    (sb_one (ss_ret (se_op op_addA o_add (se_op op_mulA o_mul (se_ix ix_seq o_ix (se_var 0) (se_op op_mod o_mod (se_var 1) (se_callB call_len o_len (by rfl) z.len_ bt_len (sa_cons (se_var 0) sa_nil))) (fun _ _ => rfl)) se_int) (se_var 1))))))
abbrev s_law_new : Stmt := topS 68
abbrev N_law_new : List Str := []
theorem sc_law_new : FnScope N_law_new [] (defScope s_law_new) := ⟨rfl, rfl, rfl, by decide +kernel, rfl, by decide +kernel, by decide +kernel⟩
theorem d_law_new {P : Program} {w : World} {K : PySem.W.Frag} {mg : Str → Option Value} {base : Heap} (z : Free mg) (M : Mods K mg)  :
    BodyOk P w K mg base N_law_new s_law_new 0 b_law_new := by
  intro qual f cdv A outer s H E hr tk hp
  exact
    (sb_one (ss_ret (se_dictS (spp_cons (se_newL sa_nil) (spp_cons (se_newL sa_nil) spp_nil)) (by decide +kernel) rfl rfl (by simp) (by decide) (by decide))))
abbrev s_law_take : Stmt := topS 69
abbrev N_law_take : List Str := ["model", "moment", "files", "rows", "before", "row", "place", "picture", "told", "number", "mine"]
theorem sc_law_take : FnScope N_law_take ["model", "moment", "files"] (defScope s_law_take) := ⟨rfl, rfl, rfl, by decide +kernel, rfl, by decide +kernel, by decide +kernel⟩
theorem d_law_take {P : Program} {w : World} {K : PySem.W.Frag} {mg : Str → Option Value} {base : Heap} (z : Free mg) (M : Mods K mg)  :
    BodyOk P w K mg base N_law_take s_law_take 0 b_law_take := by
  intro qual f cdv A outer s H E hr tk hp
  exact
    (sb_cons (ss_set (i := 3) sc_law_take.nd rfl (by first | exact Or.inl rfl | exact Or.inr rfl) (se_dgetS hr (se_var 0) se_str))
    (sb_cons (ss_setLc (i := 4) (own := [("row", 5)]) rfl sc_law_take.nd rfl rfl (sw_true rfl rfl rfl (by decide +kernel)) (si_seq (se_var 3)) (blkOk_by (by kernel_rfl)) (by simp) (fun _ _ _ _ _ => (sg_name (i := 5) sc_law_take.nd rfl (by first | exact Or.inl rfl | exact Or.inr rfl))) (fun _ _ _ _ _ => sts_nil) (fun _ _ _ _ _ => (se_callTy call_list_of o_list (by rfl) z.list_ bt_list (sa_cons (se_dgetS hr (se_var 5) se_str) sa_nil))))
    (sb_cons (ss_for hp rfl (si_seq (se_var 3)) (sg_name (i := 5) sc_law_take.nd rfl (by first | exact Or.inl rfl | exact Or.inr rfl))
    (sb_one (ss_dputS hr (se_newL sa_nil) (se_var 5) se_str)))
    (sb_cons (ss_for hp rfl (si_seq (se_var 2)) (sg_tup rfl (sgs_cons (sg_name (i := 6) sc_law_take.nd rfl (by first | exact Or.inl rfl | exact Or.inr rfl)) (sgs_cons (sg_name (i := 7) sc_law_take.nd rfl (by first | exact Or.inl rfl | exact Or.inr rfl)) sgs_nil)))
    (sb_cons (ss_setLc (i := 10) (own := [("row", 5)]) rfl sc_law_take.nd rfl rfl (sw_true rfl rfl rfl (by decide +kernel)) (si_seq (se_var 3)) (blkOk_by (by kernel_rfl)) (by simp) (fun _ _ _ _ _ => (sg_name (i := 5) sc_law_take.nd rfl (by first | exact Or.inl rfl | exact Or.inr rfl))) (fun _ _ _ _ _ => (sts_one (st_cmp (op_eqD hr.units) o_eq (se_dgetS hr (se_var 5) se_str) (se_var 7) (nomark _)))) (fun _ _ _ _ _ => (se_var 5)))
    (sb_cons (ss_if (st_cmp (op_eqNil (Nat.lt_of_le_of_lt (Nat.le_add_right _ 64) hr.units)) o_eqNil (se_var 10) (se_lst sa_nil) (nomark _))
    (sb_cons (ss_set (i := 10) sc_law_take.nd rfl (by first | exact Or.inl rfl | exact Or.inr rfl) (se_lst (sa_cons (se_dictS (spp_cons (se_var 7) (spp_cons (se_newL sa_nil) (spp_cons (se_tup sa_nil) (spp_cons (se_newL sa_nil) (spp_cons se_int (spp_cons (se_var 1) spp_nil)))))) (by decide +kernel) rfl rfl (by simp) (by decide) (by decide)) sa_nil)))
    (sb_one (ss_expr (se_methL PySem.F.slot_list_append PySem.F.type_list_append mt_append o_append (se_var 3) (sa_cons (se_ix ix_seq o_ix (se_var 10) se_int (fun _ _ => rfl)) sa_nil)))))
    sb_nil)
    (sb_one (ss_expr (se_methL PySem.F.slot_list_append PySem.F.type_list_append mt_append o_append (se_dgetS hr (se_ix ix_seq o_ix (se_var 10) se_int (fun _ _ => rfl)) se_str) (sa_cons (se_var 6) sa_nil)))))))
    (sb_cons (ss_set (i := 8) sc_law_take.nd rfl (by first | exact Or.inl rfl | exact Or.inr rfl) (se_tup (sa_cons (se_newL sa_nil) (sa_cons (se_newL sa_nil) (sa_cons (se_newL sa_nil) (sa_cons (se_newL sa_nil) sa_nil))))))
    (sb_cons (ss_for hp rfl (si_enum (by rfl) z.enumerate_ (sa_cons (se_var 3) sa_nil)) (sg_tup rfl (sgs_cons (sg_name (i := 9) sc_law_take.nd rfl (by first | exact Or.inl rfl | exact Or.inr rfl)) (sgs_cons (sg_name (i := 5) sc_law_take.nd rfl (by first | exact Or.inl rfl | exact Or.inr rfl)) sgs_nil)))
    (sb_one (ss_if (st_cmp op_geA o_cmpI (se_var 9) (se_callB call_len o_len (by rfl) z.len_ bt_len (sa_cons (se_var 4) sa_nil)) (nomark _))
    (sb_one (ss_expr (se_methL PySem.F.slot_list_append PySem.F.type_list_append mt_append o_append (se_ix ix_seq o_ix (se_var 8) se_int (fun _ _ => rfl)) (sa_cons (se_var 9) sa_nil))))
    (sb_one (ss_if (st_cmp (op_neD hr.units) o_ne (se_ix ix_seq o_ix (se_var 4) (se_var 9) (fun _ _ => rfl)) (se_dgetS hr (se_var 5) se_str) (nomark _))
    (sb_one (ss_expr (se_methL PySem.F.slot_list_append PySem.F.type_list_append mt_append o_append (se_ix ix_seq o_ix (se_var 8) (se_ix ix_seq o_ix (se_lst (sa_cons se_int (sa_cons se_int (sa_cons se_int sa_nil)))) (se_op op_addA o_add (se_callTy call_int1 o_int (by rfl) z.int_ bt_int (sa_cons (se_cmp (op_eqD hr.units) o_eq (se_dgetS hr (se_var 5) se_str) (se_lst sa_nil) (nomark _)) sa_nil)) (se_op op_mulA o_mul se_int (se_callTy call_int1 o_int (by rfl) z.int_ bt_int (sa_cons (se_cmp (op_eqD hr.units) o_eq (se_ix ix_seq o_ix (se_var 4) (se_var 9) (fun _ _ => rfl)) (se_lst sa_nil) (nomark _)) sa_nil)))) (fun _ _ => rfl)) (fun _ _ => rfl)) (sa_cons (se_var 9) sa_nil))))
    sb_nil)))))
    (sb_one (ss_ret (se_var 8)))))))))
abbrev s_is_picture : Stmt := topS 20
abbrev N_is_picture : List Str := ["thing", "row", "cell"]
theorem sc_is_picture : FnScope N_is_picture ["thing"] (defScope s_is_picture) := ⟨rfl, rfl, rfl, by decide +kernel, rfl, by decide +kernel, by decide +kernel⟩
theorem d_is_picture {P : Program} {w : World} {K : PySem.W.Frag} {mg : Str → Option Value} {base : Heap} (z : Free mg) (M : Mods K mg) (h_is_whole : Callee P w K mg base 1 "is_whole" 3 F_is_whole) :
    BodyOk P w K mg base N_is_picture s_is_picture 1 b_is_picture := by
  intro qual f cdv A outer s H E hr tk hp
  exact
    (sb_cons (ss_if (st_bool (sw_or (st_not (st_val (se_callB call_isi o_isi (by rfl) z.isinstance_ bt_isinstance (sa_cons (se_var 0) (sa_cons (se_bty (by rfl) z.tuple_ bt_tuple) sa_nil))))) (sw_or1 (st_not (st_chain op_leA op_leA o_cmpI o_cmpI se_int (se_callB call_len o_len (by rfl) z.len_ bt_len (sa_cons (se_var 0) sa_nil)) (se_gintE (by rfl) M.c_SIDE))))))
    (sb_one (ss_ret se_bl))
    sb_nil)
    (sb_cons (ss_if (st_not (st_val (se_callB (cr_all rfl) o_bools (by rfl) z.all_ bt_all (sa_cons (se_lc (own := [("row", 1)]) rfl sc_is_picture.nd (si_seq (se_var 0)) (blkOk_by (by kernel_rfl)) (by simp) (fun _ _ _ _ _ => (sg_name (i := 1) sc_is_picture.nd rfl (by first | exact Or.inl rfl | exact Or.inr rfl))) (fun _ _ _ _ _ => sts_nil) (fun _ _ _ _ _ => (se_and (se_callB call_isi o_isi (by rfl) z.isinstance_ bt_isinstance (sa_cons (se_var 1) (sa_cons (se_bty (by rfl) z.tuple_ bt_tuple) sa_nil))) (se_one (se_chain op_leA op_leA o_cmpI o_cmpI se_int (se_callB call_len o_len (by rfl) z.len_ bt_len (sa_cons (se_var 1) sa_nil)) (se_gintE (by rfl) M.c_SIDE)))))) sa_nil))))
    (sb_one (ss_ret se_bl))
    sb_nil)
    (sb_cons (ss_if (st_not (st_val (se_callB (cr_all rfl) o_bools (by rfl) z.all_ bt_all (sa_cons (se_lc (own := [("row", 1)]) rfl sc_is_picture.nd (si_seq (se_var 0)) (blkOk_by (by kernel_rfl)) (by simp) (fun _ _ _ _ _ => (sg_name (i := 1) sc_is_picture.nd rfl (by first | exact Or.inl rfl | exact Or.inr rfl))) (fun _ _ _ _ _ => sts_nil) (fun _ _ _ _ _ => (se_cmp (op_eqD hr.units) o_eq (se_callB call_len o_len (by rfl) z.len_ bt_len (sa_cons (se_var 1) sa_nil)) (se_callB call_len o_len (by rfl) z.len_ bt_len (sa_cons (se_ix ix_seq o_ix (se_var 0) se_int (fun _ _ => rfl)) sa_nil)) (nomark _)))) sa_nil))))
    (sb_one (ss_ret se_bl))
    sb_nil)
    (sb_one (ss_ret (se_callB (cr_all rfl) o_bools (by rfl) z.all_ bt_all (sa_cons (se_lc (own := [("row", 1)]) rfl sc_is_picture.nd (si_seq (se_var 0)) (blkOk_by (by kernel_rfl)) (by simp) (fun _ _ _ _ _ => (sg_name (i := 1) sc_is_picture.nd rfl (by first | exact Or.inl rfl | exact Or.inr rfl))) (fun _ _ _ _ _ => sts_nil) (fun _ _ _ _ _ => (se_callB (cr_all rfl) o_bools (by rfl) z.all_ bt_all (sa_cons (se_lc (own := [("cell", 2)]) rfl sc_is_picture.nd (si_seq (se_var 1)) (blkOk_by (by kernel_rfl)) (by simp) (fun _ _ _ _ _ => (sg_name (i := 2) sc_is_picture.nd rfl (by first | exact Or.inl rfl | exact Or.inr rfl))) (fun _ _ _ _ _ => sts_nil) (fun _ _ _ _ _ => (se_fn h_is_whole hr (by omega) (by rfl) takesF (sa_cons (se_var 2) (sa_cons se_int (sa_cons (se_gintE (by rfl) M.c_GREAT) sa_nil)))))) sa_nil)))) sa_nil)))))))
abbrev s_moved : Stmt := topS 31
abbrev N_moved : List Str := ["rows", "deed", "left", "top", "width", "height", "row"]
theorem sc_moved : FnScope N_moved ["rows", "deed"] (defScope s_moved) := ⟨rfl, rfl, rfl, by decide +kernel, rfl, by decide +kernel, by decide +kernel⟩
theorem d_moved {P : Program} {w : World} {K : PySem.W.Frag} {mg : Str → Option Value} {base : Heap} (z : Free mg) (M : Mods K mg) (h_mirrored_rows : Callee P w K mg base 1 "mirrored_rows" 1 F_mirrored_rows) (h_turned_rows : Callee P w K mg base 1 "turned_rows" 1 F_turned_rows) :
    BodyOk P w K mg base N_moved s_moved 1 b_moved := by
  intro qual f cdv A outer s H E hr tk hp
  exact
    (sb_cons (ss_if (st_cmp (op_eqD hr.units) o_eq (se_ix ix_seq o_ix (se_var 1) se_int (fun _ _ => rfl)) se_str (nomark _))
    (sb_one (ss_ret (se_fn h_turned_rows hr (by omega) (by rfl) tk (sa_cons (se_var 0) sa_nil))))
    sb_nil)
    (sb_cons (ss_if (st_cmp (op_eqD hr.units) o_eq (se_ix ix_seq o_ix (se_var 1) se_int (fun _ _ => rfl)) se_str (nomark _))
    (sb_one (ss_ret (se_fn h_mirrored_rows hr (by omega) (by rfl) tk (sa_cons (se_var 0) sa_nil))))
    sb_nil)
    (sb_cons (ss_if (st_cmp (op_eqD hr.units) o_eq (se_ix ix_seq o_ix (se_var 1) se_int (fun _ _ => rfl)) se_str (nomark _))
    (sb_one (ss_ret (se_callTy call_tuple_of o_tuple (by rfl) z.tuple_ bt_tuple (sa_cons (se_lc (own := [("row", 6)]) rfl sc_moved.nd (si_seq (se_halve (se_var 0))) (blkOk_by (by kernel_rfl)) (by simp) (fun _ _ _ _ _ => (sg_name (i := 6) sc_moved.nd rfl (by first | exact Or.inl rfl | exact Or.inr rfl))) (fun _ _ _ _ _ => sts_nil) (fun _ _ _ _ _ => (se_halve (se_var 6)))) sa_nil))))
    sb_nil)
    (sb_cons (ss_if (st_cmp (op_eqD hr.units) o_eq (se_ix ix_seq o_ix (se_var 1) se_int (fun _ _ => rfl)) se_str (nomark _))
    (sb_cons (ss_asg (se_slc (se_var 1) (so_some se_int) so_none) (sg_tup rfl (sgs_cons (sg_name (i := 2) sc_moved.nd rfl (by first | exact Or.inl rfl | exact Or.inr rfl)) (sgs_cons (sg_name (i := 3) sc_moved.nd rfl (by first | exact Or.inl rfl | exact Or.inr rfl)) (sgs_cons (sg_name (i := 4) sc_moved.nd rfl (by first | exact Or.inl rfl | exact Or.inr rfl)) (sgs_cons (sg_name (i := 5) sc_moved.nd rfl (by first | exact Or.inl rfl | exact Or.inr rfl)) sgs_nil))))))
    (sb_cons (ss_if (st_bool (sw_or (st_cmp op_gtA o_cmpI (se_op op_addA o_add (se_var 2) (se_var 4)) (se_callB call_len o_len (by rfl) z.len_ bt_len (sa_cons (se_ix ix_seq o_ix (se_var 0) se_int (fun _ _ => rfl)) sa_nil)) (nomark _)) (sw_or1 (st_cmp op_gtA o_cmpI (se_op op_addA o_add (se_var 3) (se_var 5)) (se_callB call_len o_len (by rfl) z.len_ bt_len (sa_cons (se_var 0) sa_nil)) (nomark _)))))
    (sb_one (ss_raiseE M.x_NoCut rfl tk (by rfl)))
    sb_nil)
    (sb_one (ss_ret (se_callTy call_tuple_of o_tuple (by rfl) z.tuple_ bt_tuple (sa_cons (se_lc (own := [("row", 6)]) rfl sc_moved.nd (si_seq (se_slc (se_var 0) (so_some (se_var 3)) (so_some (se_op op_addA o_add (se_var 3) (se_var 5))))) (blkOk_by (by kernel_rfl)) (by simp) (fun _ _ _ _ _ => (sg_name (i := 6) sc_moved.nd rfl (by first | exact Or.inl rfl | exact Or.inr rfl))) (fun _ _ _ _ _ => sts_nil) (fun _ _ _ _ _ => (se_slc (se_var 6) (so_some (se_var 2)) (so_some (se_op op_addA o_add (se_var 2) (se_var 4)))))) sa_nil))))))
    sb_nil)
    (sb_one (ss_ret (se_var 0)))))))
abbrev s_is_place : Stmt := topS 49
abbrev N_is_place : List Str := ["thing", "word"]
theorem sc_is_place : FnScope N_is_place ["thing"] (defScope s_is_place) := ⟨rfl, rfl, rfl, by decide +kernel, rfl, by decide +kernel, by decide +kernel⟩
theorem d_is_place {P : Program} {w : World} {K : PySem.W.Frag} {mg : Str → Option Value} {base : Heap} (z : Free mg) (M : Mods K mg) (h_is_word : Callee P w K mg base 1 "is_word" 1 F_is_word) :
    BodyOk P w K mg base N_is_place s_is_place 1 b_is_place := by
  intro qual f cdv A outer s H E hr tk hp
  exact
    (sb_cons (ss_if (st_bool (sw_or (st_not (st_val (se_callB call_isi o_isi (by rfl) z.isinstance_ bt_isinstance (sa_cons (se_var 0) (sa_cons (se_bty (by rfl) z.str_ bt_str) sa_nil))))) (sw_or1 (st_cmp op_gtA o_cmpI (se_callB call_len o_len (by rfl) z.len_ bt_len (sa_cons (se_var 0) sa_nil)) (se_gintE (by rfl) M.c_PLACE) (nomark _)))))
    (sb_one (ss_ret se_bl))
    sb_nil)
    (sb_one (ss_ret (se_callB (cr_all rfl) o_bools (by rfl) z.all_ bt_all (sa_cons (se_lc (own := [("word", 1)]) rfl sc_is_place.nd (si_seq (st_split (se_var 0) se_str)) (blkOk_by (by kernel_rfl)) (by simp) (fun _ _ _ _ _ => (sg_name (i := 1) sc_is_place.nd rfl (by first | exact Or.inl rfl | exact Or.inr rfl))) (fun _ _ _ _ _ => sts_nil) (fun _ _ _ _ _ => (se_fn h_is_word hr (by omega) (by rfl) takesF (sa_cons (se_var 1) sa_nil)))) sa_nil)))))
abbrev s_Hall_need : Stmt := inClass (topS 58) 3
abbrev N_Hall_need : List Str := ["self", "number"]
theorem sc_Hall_need : FnScope N_Hall_need ["self", "number"] (defScope s_Hall_need) := ⟨rfl, rfl, rfl, by decide +kernel, rfl, by decide +kernel, by decide +kernel⟩
theorem d_Hall_need {P : Program} {w : World} {K : PySem.W.Frag} {mg : Str → Option Value} {base : Heap} (z : Free mg) (M : Mods K mg) (h_is_whole : Callee P w K mg base 1 "is_whole" 3 F_is_whole) :
    BodyOk P w K mg base N_Hall_need s_Hall_need 1 b_Hall_need := by
  intro qual f cdv A outer s H E hr tk hp
  exact
    (sb_cons (ss_if (st_not (st_val (se_fn h_is_whole hr (by omega) (by rfl) tk (sa_cons (se_var 1) (sa_cons se_int (sa_cons (se_op op_sub o_sub (se_callB call_len o_len (by rfl) z.len_ bt_len (sa_cons (se_fld M.hallC M.nr (se_var 0)) sa_nil)) se_int) sa_nil))))))
    (sb_one (ss_raiseE M.x_NoNumber rfl tk (by rfl)))
    sb_nil)
    (sb_one (ss_ret (se_ix ix_seq o_ix (se_fld M.hallC M.nr (se_var 0)) (se_var 1) (fun _ _ => rfl)))))
abbrev s_law_mixed : Stmt := topS 61
abbrev N_law_mixed : List Str := ["script", "k", "many", "drawn"]
theorem sc_law_mixed : FnScope N_law_mixed ["script", "k", "many"] (defScope s_law_mixed) := ⟨rfl, rfl, rfl, by decide +kernel, rfl, by decide +kernel, by decide +kernel⟩
theorem d_law_mixed {P : Program} {w : World} {K : PySem.W.Frag} {mg : Str → Option Value} {base : Heap} (z : Free mg) (M : Mods K mg) (h_law_cell_at : Callee P w K mg base 1 "_law_cell_at" 2 F_law_cell_at) :
    BodyOk P w K mg base N_law_mixed s_law_mixed 1 b_law_mixed := by
  intro qual f cdv A outer s H E hr tk hp
  exact
    (sb_cons (ss_set (i := 3) sc_law_mixed.nd rfl (by first | exact Or.inl rfl | exact Or.inr rfl) (se_op op_mod o_mod (se_op op_mulA o_mul (se_op op_addA o_add (se_op op_addA o_add (se_fn h_law_cell_at hr (by omega) (by rfl) tk (sa_cons (se_var 0) (sa_cons (se_var 1) sa_nil))) (se_op op_mulA o_mul se_int (se_var 1))) se_int) se_int) se_int))
    (sb_one (ss_ret (se_op op_mod o_mod (se_op op_mod o_mod (se_op op_addA o_add (se_op op_addA o_add (se_op op_mulA o_mul (se_var 3) (se_var 3)) (se_op op_mulA o_mul se_int (se_var 3))) (se_var 1)) se_int) (se_var 2)))))
abbrev s_behind : Stmt := topS 33
abbrev N_behind : List Str := ["rows", "deeds", "deed", "row"]
theorem sc_behind : FnScope N_behind ["rows", "deeds"] (defScope s_behind) := ⟨rfl, rfl, rfl, by decide +kernel, rfl, by decide +kernel, by decide +kernel⟩
theorem d_behind {P : Program} {w : World} {K : PySem.W.Frag} {mg : Str → Option Value} {base : Heap} (z : Free mg) (M : Mods K mg) (h_lit : Callee P w K mg base 1 "lit" 2 F_lit) (h_moved : Callee P w K mg base 2 "moved" 2 F_moved) :
    BodyOk P w K mg base N_behind s_behind 2 b_behind := by
  intro qual f cdv A outer s H E hr tk hp
  exact
    (sb_cons (ss_for hp rfl (si_seq (se_var 1)) (sg_name (i := 2) sc_behind.nd rfl (by first | exact Or.inl rfl | exact Or.inr rfl))
    (sb_cons (ss_set (i := 0) sc_behind.nd rfl (by first | exact Or.inl rfl | exact Or.inr rfl) (se_fn h_moved hr (by omega) (by rfl) tk (sa_cons (se_var 0) (sa_cons (se_var 2) sa_nil))))
    (sb_one (ss_set (i := 0) sc_behind.nd rfl (by first | exact Or.inl rfl | exact Or.inr rfl) (se_callTy call_tuple_of o_tuple (by rfl) z.tuple_ bt_tuple (sa_cons (se_lc (own := [("row", 3)]) rfl sc_behind.nd (si_seq (se_var 0)) (blkOk_by (by kernel_rfl)) (by simp) (fun _ _ _ _ _ => (sg_name (i := 3) sc_behind.nd rfl (by first | exact Or.inl rfl | exact Or.inr rfl))) (fun _ _ _ _ _ => sts_nil) (fun _ _ _ _ _ => (se_fn h_lit hr (by omega) (by rfl) takesF (sa_cons (se_var 3) (sa_cons (se_var 2) sa_nil))))) sa_nil))))))
    (sb_one (ss_ret (se_var 0))))
abbrev s_are_files : Stmt := topS 57
abbrev N_are_files : List Str := ["thing", "last", "row"]
theorem sc_are_files : FnScope N_are_files ["thing"] (defScope s_are_files) := ⟨rfl, rfl, rfl, by decide +kernel, rfl, by decide +kernel, by decide +kernel⟩
theorem d_are_files {P : Program} {w : World} {K : PySem.W.Frag} {mg : Str → Option Value} {base : Heap} (z : Free mg) (M : Mods K mg) (h_is_picture : Callee P w K mg base 2 "is_picture" 1 F_is_picture) (h_is_place : Callee P w K mg base 2 "is_place" 1 F_is_place) :
    BodyOk P w K mg base N_are_files s_are_files 2 b_are_files := by
  intro qual f cdv A outer s H E hr tk hp
  exact
    (sb_cons (ss_if (st_bool (sw_or (st_not (st_val (se_callB call_isi o_isi (by rfl) z.isinstance_ bt_isinstance (sa_cons (se_var 0) (sa_cons (se_bty (by rfl) z.tuple_ bt_tuple) sa_nil))))) (sw_or1 (st_cmp op_gtA o_cmpI (se_callB call_len o_len (by rfl) z.len_ bt_len (sa_cons (se_var 0) sa_nil)) (se_gintE (by rfl) M.c_FILES) (nomark _)))))
    (sb_one (ss_ret se_bl))
    sb_nil)
    (sb_cons (ss_set (i := 1) sc_are_files.nd rfl (by first | exact Or.inl rfl | exact Or.inr rfl) se_str)
    (sb_cons (ss_for hp rfl (si_seq (se_var 0)) (sg_name (i := 2) sc_are_files.nd rfl (by first | exact Or.inl rfl | exact Or.inr rfl))
    (sb_cons (ss_if (st_bool (sw_or (st_not (st_val (se_callB call_isi o_isi (by rfl) z.isinstance_ bt_isinstance (sa_cons (se_var 2) (sa_cons (se_bty (by rfl) z.tuple_ bt_tuple) sa_nil))))) (sw_or (st_cmp (op_neD hr.units) o_ne (se_callB call_len o_len (by rfl) z.len_ bt_len (sa_cons (se_var 2) sa_nil)) se_int (nomark _)) (sw_or (st_not (st_val (se_fn h_is_place hr (by omega) (by rfl) tk (sa_cons (se_ix ix_seq o_ix (se_var 2) se_int (fun _ _ => rfl)) sa_nil)))) (sw_or1 (st_not (st_val (se_fn h_is_picture hr (by omega) (by rfl) tk (sa_cons (se_ix ix_seq o_ix (se_var 2) se_int (fun _ _ => rfl)) sa_nil)))))))))
    (sb_one (ss_ret se_bl))
    sb_nil)
    (sb_cons (ss_if (st_cmp op_leA o_cmpI (se_ix ix_seq o_ix (se_var 2) se_int (fun _ _ => rfl)) (se_var 1) (nomark _))
    (sb_one (ss_ret se_bl))
    sb_nil)
    (sb_one (ss_set (i := 1) sc_are_files.nd rfl (by first | exact Or.inl rfl | exact Or.inr rfl) (se_ix ix_seq o_ix (se_var 2) se_int (fun _ _ => rfl)))))))
    (sb_one (ss_ret se_bl)))))
abbrev s_Hall_number_of : Stmt := inClass (topS 58) 5
abbrev N_Hall_number_of : List Str := ["self", "picture"]
theorem sc_Hall_number_of : FnScope N_Hall_number_of ["self", "picture"] (defScope s_Hall_number_of) := ⟨rfl, rfl, rfl, by decide +kernel, rfl, by decide +kernel, by decide +kernel⟩
theorem d_Hall_number_of {P : Program} {w : World} {K : PySem.W.Frag} {mg : Str → Option Value} {base : Heap} (z : Free mg) (M : Mods K mg) (h_is_picture : Callee P w K mg base 2 "is_picture" 1 F_is_picture) :
    BodyOk P w K mg base N_Hall_number_of s_Hall_number_of 2 b_Hall_number_of := by
  intro qual f cdv A outer s H E hr tk hp
  exact
    (sb_cons (ss_if (st_not (st_val (se_fn h_is_picture hr (by omega) (by rfl) tk (sa_cons (se_var 1) sa_nil))))
    (sb_one (ss_raiseE M.x_NoPicture rfl tk (by rfl)))
    sb_nil)
    (sb_cons (ss_if (st_cmp (op_notInPd hr) o_notInPd (se_var 1) (se_fld M.hallC M.nb (se_var 0)) (by rfl))
    (sb_one (ss_raiseE M.x_NoNumber rfl tk (by rfl)))
    sb_nil)
    (sb_one (ss_ret (se_dgetP hr (se_fld M.hallC M.nb (se_var 0)) (se_var 1))))))
abbrev s_Hall_first : Stmt := inClass (topS 58) 6
abbrev N_Hall_first : List Str := ["self", "number"]
theorem sc_Hall_first : FnScope N_Hall_first ["self", "number"] (defScope s_Hall_first) := ⟨rfl, rfl, rfl, by decide +kernel, rfl, by decide +kernel, by decide +kernel⟩
theorem d_Hall_first {P : Program} {w : World} {K : PySem.W.Frag} {mg : Str → Option Value} {base : Heap} (z : Free mg) (M : Mods K mg) (h_Hall_need : Method P w K mg base 2 "need" 2 F_Hall_need) :
    BodyOk P w K mg base N_Hall_first s_Hall_first 2 b_Hall_first := by
  intro qual f cdv A outer s H E hr tk hp
  exact
    (sb_one (ss_ret (se_dgetS hr (se_meth h_Hall_need M.hallC hr (by omega) tk (se_var 0) (sa_cons (se_var 1) sa_nil)) se_str)))
abbrev s_Hall_places : Stmt := inClass (topS 58) 7
abbrev N_Hall_places : List Str := ["self", "number"]
theorem sc_Hall_places : FnScope N_Hall_places ["self", "number"] (defScope s_Hall_places) := ⟨rfl, rfl, rfl, by decide +kernel, rfl, by decide +kernel, by decide +kernel⟩
theorem d_Hall_places {P : Program} {w : World} {K : PySem.W.Frag} {mg : Str → Option Value} {base : Heap} (z : Free mg) (M : Mods K mg) (h_Hall_need : Method P w K mg base 2 "need" 2 F_Hall_need) :
    BodyOk P w K mg base N_Hall_places s_Hall_places 2 b_Hall_places := by
  intro qual f cdv A outer s H E hr tk hp
  exact
    (sb_one (ss_ret (se_callTy call_list_of o_list (by rfl) z.list_ bt_list (sa_cons (se_dgetS hr (se_meth h_Hall_need M.hallC hr (by omega) tk (se_var 0) (sa_cons (se_var 1) sa_nil)) se_str) sa_nil))))
abbrev s_Hall_deeds : Stmt := inClass (topS 58) 8
abbrev N_Hall_deeds : List Str := ["self", "number"]
theorem sc_Hall_deeds : FnScope N_Hall_deeds ["self", "number"] (defScope s_Hall_deeds) := ⟨rfl, rfl, rfl, by decide +kernel, rfl, by decide +kernel, by decide +kernel⟩
theorem d_Hall_deeds {P : Program} {w : World} {K : PySem.W.Frag} {mg : Str → Option Value} {base : Heap} (z : Free mg) (M : Mods K mg) (h_Hall_need : Method P w K mg base 2 "need" 2 F_Hall_need) :
    BodyOk P w K mg base N_Hall_deeds s_Hall_deeds 2 b_Hall_deeds := by
  intro qual f cdv A outer s H E hr tk hp
  exact
    (sb_one (ss_ret (se_dgetS hr (se_meth h_Hall_need M.hallC hr (by omega) tk (se_var 0) (sa_cons (se_var 1) sa_nil)) se_str)))
abbrev s_law_draw : Stmt := topS 62
abbrev N_law_draw : List Str := ["script", "town", "many"]
theorem sc_law_draw : FnScope N_law_draw ["script", "town", "many"] (defScope s_law_draw) := ⟨rfl, rfl, rfl, by decide +kernel, rfl, by decide +kernel, by decide +kernel⟩
theorem d_law_draw {P : Program} {w : World} {K : PySem.W.Frag} {mg : Str → Option Value} {base : Heap} (z : Free mg) (M : Mods K mg) (h_law_mixed : Callee P w K mg base 2 "_law_mixed" 3 F_law_mixed) :
    BodyOk P w K mg base N_law_draw s_law_draw 2 b_law_draw := by
  intro qual f cdv A outer s H E hr tk hp
  exact
    (sb_cons (ss_expr (se_methL PySem.F.slot_list_append PySem.F.type_list_append mt_append o_append (se_var 1) (sa_cons se_int sa_nil)))
    (sb_one (ss_ret (se_fn h_law_mixed hr (by omega) (by rfl) tk (sa_cons (se_var 0) (sa_cons (se_callB call_len o_len (by rfl) z.len_ bt_len (sa_cons (se_var 1) sa_nil)) (sa_cons (se_var 2) sa_nil)))))))
theorem d_Hall_places_N {P : Program} {w : World} {K : PySem.W.Frag} {mg : Str → Option Value} {base : Heap} (z : Free mg) (M : Mods K mg) (h_Hall_need : Method P w K mg base 2 "need" 2 F_Hall_need) :
    BodyOk P w K mg base N_Hall_places s_Hall_places 2 b_Hall_places_N := by
  intro qual f cdv A outer s H E hr tk hp
  exact
    (sb_one (ss_ret (se_callTy call_list_of o_listN (by rfl) z.list_ bt_list (sa_cons (se_dgetS hr (se_meth h_Hall_need M.hallC hr (by omega) tk (se_var 0) (sa_cons (se_var 1) sa_nil)) se_str) sa_nil))))
abbrev s_Hall_take_in : Stmt := inClass (topS 58) 1
abbrev N_Hall_take_in : List Str := ["self", "moment", "files", "news", "before", "row", "place", "picture"]
theorem sc_Hall_take_in : FnScope N_Hall_take_in ["self", "moment", "files"] (defScope s_Hall_take_in) := ⟨rfl, rfl, rfl, by decide +kernel, rfl, by decide +kernel, by decide +kernel⟩
theorem d_Hall_take_in {P : Program} {w : World} {K : PySem.W.Frag} {mg : Str → Option Value} {base : Heap} (z : Free mg) (M : Mods K mg) (h_Hall_told_of : Method P w K mg base 1 "told_of" 2 F_Hall_told_of) (h_are_files : Callee P w K mg base 3 "are_files" 1 F_are_files) (h_is_whole : Callee P w K mg base 1 "is_whole" 3 F_is_whole) :
    BodyOk P w K mg base N_Hall_take_in s_Hall_take_in 3 b_Hall_take_in := by
  intro qual f cdv A outer s H E hr tk hp
  exact
    (sb_cons (ss_if (st_not (st_val (se_fn h_is_whole hr (by omega) (by rfl) tk (sa_cons (se_var 1) (sa_cons se_int (sa_cons (se_gintE (by rfl) M.c_MOMENTS) sa_nil))))))
    (sb_one (ss_raiseE M.x_NoFiles rfl tk (by rfl)))
    sb_nil)
    (sb_cons (ss_if (st_not (st_val (se_fn h_are_files hr (by omega) (by rfl) tk (sa_cons (se_var 2) sa_nil))))
    (sb_one (ss_raiseE M.x_NoFiles rfl tk (by rfl)))
    sb_nil)
    (sb_cons (ss_setLc (i := 3) (own := [("place", 6), ("picture", 7)]) rfl sc_Hall_take_in.nd rfl rfl (sw_true rfl rfl rfl (by decide +kernel)) (si_seq (se_var 2)) (blkOk_by (by kernel_rfl)) (by simp) (fun _ _ _ _ _ => (sg_tup rfl (sgs_cons (sg_name (i := 6) sc_Hall_take_in.nd rfl (by first | exact Or.inl rfl | exact Or.inr rfl)) (sgs_cons (sg_name (i := 7) sc_Hall_take_in.nd rfl (by first | exact Or.inl rfl | exact Or.inr rfl)) sgs_nil)))) (fun _ _ _ _ _ => (sts_one (st_cmp (op_notInPd hr) o_notInPd (se_var 7) (se_fld M.hallC M.nb (se_var 0)) (by rfl)))) (fun _ _ _ _ _ => (se_var 7)))
    (sb_cons (ss_if (st_cmp op_gtA o_cmpI (se_op op_addA o_add (se_callB call_len o_len (by rfl) z.len_ bt_len (sa_cons (se_fld M.hallC M.nr (se_var 0)) sa_nil)) (se_callB call_lenPd o_lenPd (by rfl) z.len_ bt_len (sa_cons (se_callTy (cr_dictP rfl hr) o_dict (by rfl) z.dict_ bt_dict (sa_cons (se_lc (own := [("picture", 7)]) rfl sc_Hall_take_in.nd (si_seq (se_var 3)) (blkOk_by (by kernel_rfl)) (by simp) (fun _ _ _ _ _ => (sg_name (i := 7) sc_Hall_take_in.nd rfl (by first | exact Or.inl rfl | exact Or.inr rfl))) (fun _ _ _ _ _ => sts_nil) (fun _ _ _ _ _ => (se_tup (sa_cons (se_var 7) (sa_cons se_bl sa_nil))))) sa_nil)) sa_nil))) (se_gintE (by rfl) M.c_PICTURES) (nomark _))
    (sb_one (ss_raiseE M.x_Full rfl tk (by rfl)))
    sb_nil)
    (sb_cons (ss_setLc (i := 4) (own := [("row", 5)]) rfl sc_Hall_take_in.nd rfl rfl (sw_true rfl rfl rfl (by decide +kernel)) (si_seq (se_fld M.hallC M.nr (se_var 0))) (blkOk_by (by kernel_rfl)) (by simp) (fun _ _ _ _ _ => (sg_name (i := 5) sc_Hall_take_in.nd rfl (by first | exact Or.inl rfl | exact Or.inr rfl))) (fun _ _ _ _ _ => sts_nil) (fun _ _ _ _ _ => (se_callTy call_list_of o_list (by rfl) z.list_ bt_list (sa_cons (se_dgetS hr (se_var 5) se_str) sa_nil))))
    (sb_cons (ss_for hp rfl (si_seq (se_fld M.hallC M.nr (se_var 0))) (sg_name (i := 5) sc_Hall_take_in.nd rfl (by first | exact Or.inl rfl | exact Or.inr rfl))
    (sb_one (ss_dputS hr (se_newL sa_nil) (se_var 5) se_str)))
    (sb_cons (ss_for hp rfl (si_seq (se_var 2)) (sg_tup rfl (sgs_cons (sg_name (i := 6) sc_Hall_take_in.nd rfl (by first | exact Or.inl rfl | exact Or.inr rfl)) (sgs_cons (sg_name (i := 7) sc_Hall_take_in.nd rfl (by first | exact Or.inl rfl | exact Or.inr rfl)) sgs_nil)))
    (sb_cons (ss_if (st_cmp (op_notInPd hr) o_notInPd (se_var 7) (se_fld M.hallC M.nb (se_var 0)) (by rfl))
    (sb_cons (ss_dputP hr (se_callB call_len o_len (by rfl) z.len_ bt_len (sa_cons (se_fld M.hallC M.nr (se_var 0)) sa_nil)) (se_fld M.hallC M.nb (se_var 0)) (se_var 7))
    (sb_cons (ss_set (i := 5) sc_Hall_take_in.nd rfl (by first | exact Or.inl rfl | exact Or.inr rfl) (se_dictS (spp_cons (se_var 7) (spp_cons (se_newL sa_nil) (spp_cons (se_tup sa_nil) (spp_cons (se_newL sa_nil) (spp_cons se_int (spp_cons (se_var 1) spp_nil)))))) (by decide +kernel) rfl rfl (by simp) (by decide) (by decide)))
    (sb_one (ss_expr (se_methL PySem.F.slot_list_append PySem.F.type_list_append mt_append o_append (se_fld M.hallC M.nr (se_var 0)) (sa_cons (se_var 5) sa_nil))))))
    sb_nil)
    (sb_one (ss_expr (se_methL PySem.F.slot_list_append PySem.F.type_list_append mt_append o_append (se_dgetS hr (se_ix ix_seq o_ix (se_fld M.hallC M.nr (se_var 0)) (se_dgetP hr (se_fld M.hallC M.nb (se_var 0)) (se_var 7)) (fun _ _ => rfl)) se_str) (sa_cons (se_var 6) sa_nil))))))
    (sb_one (ss_ret (se_meth h_Hall_told_of M.hallC hr (by omega) tk (se_var 0) (sa_cons (se_var 4) sa_nil)))))))))))
abbrev s_Hall_shown : Stmt := inClass (topS 58) 9
abbrev N_Hall_shown : List Str := ["self", "number", "row"]
theorem sc_Hall_shown : FnScope N_Hall_shown ["self", "number"] (defScope s_Hall_shown) := ⟨rfl, rfl, rfl, by decide +kernel, rfl, by decide +kernel, by decide +kernel⟩
theorem d_Hall_shown {P : Program} {w : World} {K : PySem.W.Frag} {mg : Str → Option Value} {base : Heap} (z : Free mg) (M : Mods K mg) (h_Hall_need : Method P w K mg base 2 "need" 2 F_Hall_need) (h_behind : Callee P w K mg base 3 "behind" 2 F_behind) :
    BodyOk P w K mg base N_Hall_shown s_Hall_shown 3 b_Hall_shown := by
  intro qual f cdv A outer s H E hr tk hp
  exact
    (sb_cons (ss_set (i := 2) sc_Hall_shown.nd rfl (by first | exact Or.inl rfl | exact Or.inr rfl) (se_meth h_Hall_need M.hallC hr (by omega) tk (se_var 0) (sa_cons (se_var 1) sa_nil)))
    (sb_one (ss_ret (se_fn h_behind hr (by omega) (by rfl) tk (sa_cons (se_dgetS hr (se_var 2) se_str) (sa_cons (se_dgetS hr (se_var 2) se_str) sa_nil))))))
abbrev s_law_pick : Stmt := topS 63
abbrev N_law_pick : List Str := ["script", "town", "some"]
theorem sc_law_pick : FnScope N_law_pick ["script", "town", "some"] (defScope s_law_pick) := ⟨rfl, rfl, rfl, by decide +kernel, rfl, by decide +kernel, by decide +kernel⟩
theorem d_law_pick {P : Program} {w : World} {K : PySem.W.Frag} {mg : Str → Option Value} {base : Heap} (z : Free mg) (M : Mods K mg) (h_law_draw : Callee P w K mg base 3 "_law_draw" 3 F_law_draw) :
    BodyOk P w K mg base N_law_pick s_law_pick 3 b_law_pick := by
  intro qual f cdv A outer s H E hr tk hp
  exact
    (sb_one (ss_ret (se_ix ix_seq o_ix (se_var 2) (se_fn h_law_draw hr (by omega) (by rfl) tk (sa_cons (se_var 0) (sa_cons (se_var 1) (sa_cons (se_callB call_len o_len (by rfl) z.len_ bt_len (sa_cons (se_var 2) sa_nil)) sa_nil)))) (fun _ _ => rfl))))
abbrev s_law_picture : Stmt := topS 64
abbrev N_law_picture : List Str := ["script", "town", "most", "width", "height", "few", "j", "k"]
theorem sc_law_picture : FnScope N_law_picture ["script", "town", "most"] (defScope s_law_picture) := ⟨rfl, rfl, rfl, by decide +kernel, rfl, by decide +kernel, by decide +kernel⟩
theorem d_law_picture {P : Program} {w : World} {K : PySem.W.Frag} {mg : Str → Option Value} {base : Heap} (z : Free mg) (M : Mods K mg) (h_law_draw : Callee P w K mg base 3 "_law_draw" 3 F_law_draw) (h_law_pick : Callee P w K mg base 4 "_law_pick" 3 F_law_pick) :
    BodyOk P w K mg base N_law_picture s_law_picture 4 b_law_picture := by
  intro qual f cdv A outer s H E hr tk hp
  exact
    (sb_cons (ss_set (i := 3) sc_law_picture.nd rfl (by first | exact Or.inl rfl | exact Or.inr rfl) (se_op op_addA o_add se_int (se_fn h_law_draw hr (by omega) (by rfl) tk (sa_cons (se_var 0) (sa_cons (se_var 1) (sa_cons (se_var 2) sa_nil))))))
    (sb_cons (ss_set (i := 4) sc_law_picture.nd rfl (by first | exact Or.inl rfl | exact Or.inr rfl) (se_fn h_law_pick hr (by omega) (by rfl) tk (sa_cons (se_var 0) (sa_cons (se_var 1) (sa_cons (se_lst (sa_cons (se_var 3) (sa_cons (se_op op_addA o_add se_int (se_fn h_law_draw hr (by omega) (by rfl) tk (sa_cons (se_var 0) (sa_cons (se_var 1) (sa_cons (se_var 2) sa_nil))))) sa_nil))) sa_nil)))))
    (sb_cons (ss_set (i := 5) sc_law_picture.nd rfl (by first | exact Or.inl rfl | exact Or.inr rfl) (se_fn h_law_pick hr (by omega) (by rfl) tk (sa_cons (se_var 0) (sa_cons (se_var 1) (sa_cons (se_lst (sa_cons se_int (sa_cons se_int (sa_cons se_int sa_nil)))) sa_nil)))))
    (sb_one (ss_ret (se_callTy call_tuple_of o_tuple (by rfl) z.tuple_ bt_tuple (sa_cons (se_lc (own := [("j", 6)]) rfl sc_law_picture.nd (si_range1 (by rfl) z.range_ (sa_cons (se_var 4) sa_nil)) (blkOk_by (by kernel_rfl)) (by simp) (fun _ _ _ _ _ => (sg_name (i := 6) sc_law_picture.nd rfl (by first | exact Or.inl rfl | exact Or.inr rfl))) (fun _ _ _ _ _ => sts_nil) (fun _ _ _ _ _ => (se_callTy call_tuple_of o_tuple (by rfl) z.tuple_ bt_tuple (sa_cons (se_lc (own := [("k", 7)]) rfl sc_law_picture.nd (si_range1 (by rfl) z.range_ (sa_cons (se_var 3) sa_nil)) (blkOk_by (by kernel_rfl)) (by simp) (fun _ _ _ _ _ => (sg_name (i := 7) sc_law_picture.nd rfl (by first | exact Or.inl rfl | exact Or.inr rfl))) (fun _ _ _ _ _ => sts_nil) (fun _ _ _ _ _ => (se_fn h_law_draw hr (by omega) (by rfl) takesF (sa_cons (se_var 0) (sa_cons (se_var 1) (sa_cons (se_var 5) sa_nil)))))) sa_nil)))) sa_nil)))))))
abbrev s_law_places : Stmt := topS 65
abbrev N_law_places : List Str := ["script", "town", "many", "made", "k", "place"]
theorem sc_law_places : FnScope N_law_places ["script", "town", "many"] (defScope s_law_places) := ⟨rfl, rfl, rfl, by decide +kernel, rfl, by decide +kernel, by decide +kernel⟩
theorem d_law_places {P : Program} {w : World} {K : PySem.W.Frag} {mg : Str → Option Value} {base : Heap} (z : Free mg) (M : Mods K mg) (h_law_draw : Callee P w K mg base 3 "_law_draw" 3 F_law_draw) (h_law_pick : Callee P w K mg base 4 "_law_pick" 3 F_law_pick) :
    BodyOk P w K mg base N_law_places s_law_places 4 b_law_places := by
  intro qual f cdv A outer s H E hr tk hp
  exact
    (sb_cons (ss_set (i := 3) sc_law_places.nd rfl (by first | exact Or.inl rfl | exact Or.inr rfl) (se_newL sa_nil))
    (sb_cons (ss_for hp rfl (si_range1 (by rfl) z.range_ (sa_cons (se_var 2) sa_nil)) (sg_name (i := 4) sc_law_places.nd rfl (by first | exact Or.inl rfl | exact Or.inr rfl))
    (sb_cons (ss_set (i := 5) sc_law_places.nd rfl (by first | exact Or.inl rfl | exact Or.inr rfl) (se_op op_addA o_add (se_op op_addA o_add (se_fn h_law_pick hr (by omega) (by rfl) tk (sa_cons (se_var 0) (sa_cons (se_var 1) (sa_cons (se_lst (sa_cons se_str (sa_cons se_str (sa_cons se_str (sa_cons se_str (sa_cons se_str sa_nil)))))) sa_nil)))) se_str) (se_ix ix_seq o_sx se_str (se_fn h_law_draw hr (by omega) (by rfl) tk (sa_cons (se_var 0) (sa_cons (se_var 1) (sa_cons se_int sa_nil)))) (fun _ _ => rfl))))
    (sb_one (ss_if (st_cmp (op_notInA (hu65 hr)) o_notIn (se_var 5) (se_var 3) (by rfl))
    (sb_one (ss_expr (se_methL PySem.F.slot_list_append PySem.F.type_list_append mt_append o_append (se_var 3) (sa_cons (se_var 5) sa_nil))))
    sb_nil))))
    (sb_one (ss_ret (se_callB (cr_sortD hr) o_sorted (by rfl) z.sorted_ bt_sorted (sa_cons (se_var 3) sa_nil))))))
abbrev s_law_ask : Stmt := topS 71
abbrev N_law_ask : List Str := ["hall", "what", "one", "other", "e"]
theorem sc_law_ask : FnScope N_law_ask ["hall", "what", "one", "other"] (defScope s_law_ask) := ⟨rfl, rfl, rfl, by decide +kernel, rfl, by decide +kernel, by decide +kernel⟩
theorem d_law_ask {P : Program} {w : World} {K : PySem.W.Frag} {mg : Str → Option Value} {base : Heap} (z : Free mg) (M : Mods K mg) (h_Hall_take_in : Method P w K mg base 4 "take_in" 3 F_Hall_take_in) (h_law_which : WhichF P w K mg base 1 (wOf wL)) :
    BodyOk P w K mg base N_law_ask s_law_ask 4 b_law_ask := by
  intro qual f cdv A outer s H E hr tk hp
  exact
    (sb_one (ss_tryW (i := 4) h_law_which (hr.mono (by decide)) rfl rfl sc_law_ask.nd rfl rfl (Or.inl rfl) (hall_names (by rfl) M.hall_) (hall_exc M.hall_ (rows_ok M)) (by rfl) tk (fun W pn xe tk hp =>
    (sb_cons (ss_if (st_cmp (op_eqD hr.units) o_eq (se_var 1) se_str (nomark _))
    (sb_one (ss_ret (se_meth h_Hall_take_in M.hallC hr (by omega) tk (se_var 0) (sa_cons (se_var 2) (sa_cons (se_var 3) sa_nil)))))
    sb_nil)
    (sb_cons (ss_if (st_cmp (op_eqD hr.units) o_eq (se_var 1) se_str (nomark _))
    (sb_one ss_bad)
    sb_nil)
    (sb_cons (ss_if (st_cmp (op_eqD hr.units) o_eq (se_var 1) se_str (nomark _))
    (sb_one ss_bad)
    sb_nil)
    (sb_cons (ss_if (st_cmp (op_eqD hr.units) o_eq (se_var 1) se_str (nomark _))
    (sb_one ss_bad)
    sb_nil)
    (sb_cons (ss_if (st_cmp (op_eqD hr.units) o_eq (se_var 1) se_str (nomark _))
    (sb_one ss_bad)
    sb_nil)
    (sb_cons (ss_if (st_cmp (op_eqD hr.units) o_eq (se_var 1) se_str (nomark _))
    (sb_one ss_bad)
    sb_nil)
    (sb_cons (ss_if (st_cmp (op_eqD hr.units) o_eq (se_var 1) se_str (nomark _))
    (sb_one ss_bad)
    sb_nil)
    (sb_cons (ss_if (st_cmp (op_eqD hr.units) o_eq (se_var 1) se_str (nomark _))
    (sb_one ss_bad)
    sb_nil)
    (sb_cons (ss_if (st_cmp (op_eqD hr.units) o_eq (se_var 1) se_str (nomark _))
    (sb_one ss_bad)
    sb_nil)
    (sb_one ss_bad)))))))))))))
abbrev s_law_files : Stmt := topS 66
abbrev N_law_files : List Str := ["script", "town", "pictures", "many", "made", "place"]
theorem sc_law_files : FnScope N_law_files ["script", "town", "pictures", "many"] (defScope s_law_files) := ⟨rfl, rfl, rfl, by decide +kernel, rfl, by decide +kernel, by decide +kernel⟩
theorem d_law_files {P : Program} {w : World} {K : PySem.W.Frag} {mg : Str → Option Value} {base : Heap} (z : Free mg) (M : Mods K mg) (h_law_draw : Callee P w K mg base 3 "_law_draw" 3 F_law_draw) (h_law_pick : Callee P w K mg base 4 "_law_pick" 3 F_law_pick) (h_law_places : Callee P w K mg base 5 "_law_places" 3 F_law_places) :
    BodyOk P w K mg base N_law_files s_law_files 5 b_law_files := by
  intro qual f cdv A outer s H E hr tk hp
  exact
    (sb_cons (ss_set (i := 4) sc_law_files.nd rfl (by first | exact Or.inl rfl | exact Or.inr rfl) (se_newL sa_nil))
    (sb_cons (ss_for hp rfl (si_seq (se_fn h_law_places hr (by omega) (by rfl) tk (sa_cons (se_var 0) (sa_cons (se_var 1) (sa_cons (se_fn h_law_draw hr (by omega) (by rfl) tk (sa_cons (se_var 0) (sa_cons (se_var 1) (sa_cons (se_op op_addA o_add (se_var 3) se_int) sa_nil)))) sa_nil))))) (sg_name (i := 5) sc_law_files.nd rfl (by first | exact Or.inl rfl | exact Or.inr rfl))
    (sb_one (ss_expr (se_methL PySem.F.slot_list_append PySem.F.type_list_append mt_append o_append (se_var 4) (sa_cons (se_tup (sa_cons (se_var 5) (sa_cons (se_fn h_law_pick hr (by omega) (by rfl) tk (sa_cons (se_var 0) (sa_cons (se_var 1) (sa_cons (se_var 2) sa_nil)))) sa_nil))) sa_nil)))))
    (sb_one (ss_ret (se_callTy call_tuple_of o_tuple (by rfl) z.tuple_ bt_tuple (sa_cons (se_var 4) sa_nil))))))
abbrev s_law_pictures : Stmt := topS 67
abbrev N_law_pictures : List Str := ["script", "town", "many", "made", "k", "picture"]
theorem sc_law_pictures : FnScope N_law_pictures ["script", "town", "many"] (defScope s_law_pictures) := ⟨rfl, rfl, rfl, by decide +kernel, rfl, by decide +kernel, by decide +kernel⟩
theorem d_law_pictures {P : Program} {w : World} {K : PySem.W.Frag} {mg : Str → Option Value} {base : Heap} (z : Free mg) (M : Mods K mg) (h_law_picture : Callee P w K mg base 5 "_law_picture" 3 F_law_picture) :
    BodyOk P w K mg base N_law_pictures s_law_pictures 5 b_law_pictures := by
  intro qual f cdv A outer s H E hr tk hp
  exact
    (sb_cons (ss_set (i := 3) sc_law_pictures.nd rfl (by first | exact Or.inl rfl | exact Or.inr rfl) (se_newL sa_nil))
    (sb_cons (ss_for hp rfl (si_range1 (by rfl) z.range_ (sa_cons (se_var 2) sa_nil)) (sg_name (i := 4) sc_law_pictures.nd rfl (by first | exact Or.inl rfl | exact Or.inr rfl))
    (sb_cons (ss_set (i := 5) sc_law_pictures.nd rfl (by first | exact Or.inl rfl | exact Or.inr rfl) (se_fn h_law_picture hr (by omega) (by rfl) tk (sa_cons (se_var 0) (sa_cons (se_var 1) (sa_cons se_int sa_nil)))))
    (sb_one (ss_if (st_cmp (op_notInA (hu65 hr)) o_notIn (se_var 5) (se_var 3) (by rfl))
    (sb_one (ss_expr (se_methL PySem.F.slot_list_append PySem.F.type_list_append mt_append o_append (se_var 3) (sa_cons (se_var 5) sa_nil))))
    sb_nil))))
    (sb_one (ss_ret (se_var 3)))))
abbrev s_law : Stmt := topS 72
abbrev N_law : List Str := ["script", "town", "hall", "model", "pictures", "turn", "files", "number", "row"]
theorem sc_law : FnScope N_law ["script"] (defScope s_law) := ⟨rfl, rfl, rfl, by decide +kernel, rfl, by decide +kernel, by decide +kernel⟩
theorem d_law {P : Program} {w : World} {K : PySem.W.Frag} {mg : Str → Option Value} {base : Heap} (z : Free mg) (M : Mods K mg) (h_Hall_init : Maker P w K mg base 1 F_Hall_init) (h_Hall_deeds : Method P w K mg base 3 "deeds" 2 F_Hall_deeds) (h_Hall_first : Method P w K mg base 3 "first" 2 F_Hall_first) (h_Hall_number_of : Method P w K mg base 3 "number_of" 2 F_Hall_number_of) (h_Hall_numbers : Method P w K mg base 1 "numbers" 1 F_Hall_numbers) (h_Hall_places : Method P w K mg base 3 "places" 2 F_Hall_places) (h_Hall_places_N : Method P w K mg base 3 "places" 2 F_Hall_places_N) (h_Hall_shown : Method P w K mg base 4 "shown" 2 F_Hall_shown) (h_law_ask : Callee P w K mg base 5 "_law_ask" 4 F_law_ask) (h_law_draw : Callee P w K mg base 3 "_law_draw" 3 F_law_draw) (h_law_files : Callee P w K mg base 6 "_law_files" 4 F_law_files) (h_law_new : Callee P w K mg base 1 "_law_new" 0 F_law_new) (h_law_pictures : Callee P w K mg base 6 "_law_pictures" 3 F_law_pictures) (h_law_take : Callee P w K mg base 1 "_law_take" 3 F_law_take) :
    BodyOk P w K mg base N_law s_law 6 b_law := by
  intro qual f cdv A outer s H E hr tk hp
  exact
    (sb_cons (ss_set (i := 1) sc_law.nd rfl (by first | exact Or.inl rfl | exact Or.inr rfl) (se_newL sa_nil))
    (sb_cons (ss_set (i := 2) sc_law.nd rfl (by first | exact Or.inl rfl | exact Or.inr rfl) (se_make h_Hall_init M.hallC hr (by omega) (by rfl)))
    (sb_cons (ss_set (i := 3) sc_law.nd rfl (by first | exact Or.inl rfl | exact Or.inr rfl) (se_fn0 h_law_new hr (by omega) (by rfl) tk))
    (sb_cons (ss_set (i := 4) sc_law.nd rfl (by first | exact Or.inl rfl | exact Or.inr rfl) (se_fn h_law_pictures hr (by omega) (by rfl) tk (sa_cons (se_var 0) (sa_cons (se_var 1) (sa_cons se_int sa_nil)))))
    (sb_cons (ss_for hp rfl (si_range1 (by rfl) z.range_ (sa_cons (se_fn h_law_draw hr (by omega) (by rfl) tk (sa_cons (se_var 0) (sa_cons (se_var 1) (sa_cons se_int sa_nil)))) sa_nil)) (sg_name (i := 5) sc_law.nd rfl (by first | exact Or.inl rfl | exact Or.inr rfl))
    (sb_cons (ss_set (i := 6) sc_law.nd rfl (by first | exact Or.inl rfl | exact Or.inr rfl) (se_fn h_law_files hr (by omega) (by rfl) tk (sa_cons (se_var 0) (sa_cons (se_var 1) (sa_cons (se_var 4) (sa_cons se_int sa_nil))))))
    (sb_cons (ss_if (st_cmp (op_neD hr.units) o_ne (se_fn h_law_ask hr (by omega) (by rfl) tk (sa_cons (se_var 2) (sa_cons se_str (sa_cons (se_var 5) (sa_cons (se_var 6) sa_nil))))) (se_fn h_law_take hr (by omega) (by rfl) tk (sa_cons (se_var 3) (sa_cons (se_var 5) (sa_cons (se_var 6) sa_nil)))) (nomark _))
    (sb_one (ss_ret se_bl))
    sb_nil)
    (sb_cons (ss_if (st_cmp (op_neD hr.units) o_ne (se_meth0 h_Hall_numbers M.hallC hr (by omega) tk (se_var 2)) (se_callB call_len o_len (by rfl) z.len_ bt_len (sa_cons (se_dgetS hr (se_var 3) se_str) sa_nil)) (nomark _))
    (sb_one (ss_ret se_bl))
    sb_nil)
    (sb_one (ss_for hp rfl (si_enum (by rfl) z.enumerate_ (sa_cons (se_dgetS hr (se_var 3) se_str) sa_nil)) (sg_tup rfl (sgs_cons (sg_name (i := 7) sc_law.nd rfl (by first | exact Or.inl rfl | exact Or.inr rfl)) (sgs_cons (sg_name (i := 8) sc_law.nd rfl (by first | exact Or.inl rfl | exact Or.inr rfl)) sgs_nil)))
    (sb_cons (ss_expr (se_methL PySem.F.slot_list_append PySem.F.type_list_append mt_append o_append (se_meth h_Hall_places_N M.hallC hr (by omega) tk (se_var 2) (sa_cons (se_var 7) sa_nil)) (sa_cons se_non sa_nil)))
    (sb_cons (ss_if (st_bool (sw_or (st_cmp (op_neD hr.units) o_ne (se_meth h_Hall_first M.hallC hr (by omega) tk (se_var 2) (sa_cons (se_var 7) sa_nil)) (se_dgetS hr (se_var 8) se_str) (nomark _)) (sw_or1 (st_cmp (op_neD hr.units) o_ne (se_meth h_Hall_places M.hallC hr (by omega) tk (se_var 2) (sa_cons (se_var 7) sa_nil)) (se_dgetS hr (se_var 8) se_str) (nomark _)))))
    (sb_one (ss_ret se_bl))
    sb_nil)
    (sb_one (ss_if (st_bool (sw_or (st_cmp (op_neD hr.units) o_ne (se_meth h_Hall_number_of M.hallC hr (by omega) tk (se_var 2) (sa_cons (se_dgetS hr (se_var 8) se_str) sa_nil)) (se_var 7) (nomark _)) (sw_or (st_cmp (op_neD hr.units) o_ne (se_meth h_Hall_shown M.hallC hr (by omega) tk (se_var 2) (sa_cons (se_var 7) sa_nil)) (se_dgetS hr (se_var 8) se_str) (nomark _)) (sw_or1 (st_cmp (op_neD hr.units) o_ne (se_meth h_Hall_deeds M.hallC hr (by omega) tk (se_var 2) (sa_cons (se_var 7) sa_nil)) (se_tup sa_nil) (nomark _))))))
    (sb_one (ss_ret se_bl))
    sb_nil))))))))))
    (sb_one (ss_ret se_bl)))))))
structure Txt (K : PySem.W.Frag) : Prop where
  t_is_whole : DefF K "is_whole" s_is_whole
  t_turned_rows : DefF K "turned_rows" s_turned_rows
  t_mirrored_rows : DefF K "mirrored_rows" s_mirrored_rows
  t_lit : DefF K "lit" s_lit
  t_is_word : DefF K "is_word" s_is_word
  t_Hall_init : MDefF K "__init__" "Hall.__init__" s_Hall_init
  t_Hall_told_of : MDefF K "told_of" "Hall.told_of" s_Hall_told_of
  t_Hall_numbers : MDefF K "numbers" "Hall.numbers" s_Hall_numbers
  t_law_cell_at : DefF K "_law_cell_at" s_law_cell_at
  t_law_new : DefF K "_law_new" s_law_new
  t_law_take : DefF K "_law_take" s_law_take
  t_is_picture : DefF K "is_picture" s_is_picture
  t_moved : DefF K "moved" s_moved
  t_is_place : DefF K "is_place" s_is_place
  t_Hall_need : MDefF K "need" "Hall.need" s_Hall_need
  t_law_mixed : DefF K "_law_mixed" s_law_mixed
  t_behind : DefF K "behind" s_behind
  t_are_files : DefF K "are_files" s_are_files
  t_Hall_number_of : MDefF K "number_of" "Hall.number_of" s_Hall_number_of
  t_Hall_first : MDefF K "first" "Hall.first" s_Hall_first
  t_Hall_places : MDefF K "places" "Hall.places" s_Hall_places
  t_Hall_deeds : MDefF K "deeds" "Hall.deeds" s_Hall_deeds
  t_law_draw : DefF K "_law_draw" s_law_draw
  t_Hall_take_in : MDefF K "take_in" "Hall.take_in" s_Hall_take_in
  t_Hall_shown : MDefF K "shown" "Hall.shown" s_Hall_shown
  t_law_pick : DefF K "_law_pick" s_law_pick
  t_law_picture : DefF K "_law_picture" s_law_picture
  t_law_places : DefF K "_law_places" s_law_places
  t_law_ask : DefF K "_law_ask" s_law_ask
  t_law_files : DefF K "_law_files" s_law_files
  t_law_pictures : DefF K "_law_pictures" s_law_pictures
  t_law : DefF K "law" s_law
  t_law_which : DefF K "_law_which" s_law_which
theorem all_ok {P : Program} {w : World} {K : PySem.W.Frag} {mg : Str → Option Value} {h : Heap} {fa : Addr} (X : K.In h) (G : h.Ns mainGlobals mg) (hm : mg "law" = some (.ref fa)) (T : Txt K) (z : Free mg) (M : Mods K mg)
    (hF : ∀ ns : List Int, ns.length ≤ 63 → ∃ S, fnS 1 9 b_law [.fz (ns.map .int)] [] = .ok (.bl true) S) :
    ∃ fd : FuncData, (∀ (s : Shared) (u : Value), BindsTo s fd ⟨[u], []⟩ [("script", u)]) ∧ ∀ base : Heap, K.In base → base.Ns mainGlobals mg → FnOk P w K mg base (L2N.CX P w) 7 fa fd ["script"] (spEnd K) := by
  obtain ⟨kV, doc, pm, an, cdv, ct, FL⟩ := T.t_law.law X G hm
  refine ⟨PySem.W.fnOf "law" "law" (defArgs s_law) (defBody s_law) (defScope s_law) .none kV doc pm an cdv ct, fun s u => .of_eq rfl, fun base _ _ => ?_⟩
  have h_law_which : WhichF P w K mg base 1 (wOf wL) := d_law_which z M (T.t_law_which.at0 X G fun _ _ _ _ _ _ us hl => match us, hl with | [_], _ => rfl)
  have h_is_whole : Callee P w K mg base 1 "is_whole" 3 F_is_whole := callS (T.t_is_whole.at0 X G fun _ _ _ _ _ _ us hl => match us, hl with | [_, _, _], _ => rfl) sc_is_whole (d_is_whole z M )
  have h_turned_rows : Callee P w K mg base 1 "turned_rows" 1 F_turned_rows := callS (T.t_turned_rows.at0 X G fun _ _ _ _ _ _ us hl => match us, hl with | [_], _ => rfl) sc_turned_rows (d_turned_rows z M )
  have h_mirrored_rows : Callee P w K mg base 1 "mirrored_rows" 1 F_mirrored_rows := callS (T.t_mirrored_rows.at0 X G fun _ _ _ _ _ _ us hl => match us, hl with | [_], _ => rfl) sc_mirrored_rows (d_mirrored_rows z M )
  have h_lit : Callee P w K mg base 1 "lit" 2 F_lit := callS (T.t_lit.at0 X G fun _ _ _ _ _ _ us hl => match us, hl with | [_, _], _ => rfl) sc_lit (d_lit z M )
  have h_is_word : Callee P w K mg base 1 "is_word" 1 F_is_word := callS (T.t_is_word.at0 X G fun _ _ _ _ _ _ us hl => match us, hl with | [_], _ => rfl) sc_is_word (d_is_word z M )
  have h_Hall_init : Maker P w K mg base 1 F_Hall_init := callMk (T.t_Hall_init.atM fun _ _ _ _ _ _ us hl => match us, hl with | [_], _ => rfl) M.mkH M.kpH sc_Hall_init (d_Hall_init z M )
  have h_Hall_told_of : Method P w K mg base 1 "told_of" 2 F_Hall_told_of := callMS (T.t_Hall_told_of.atM fun _ _ _ _ _ _ us hl => match us, hl with | [_, _], _ => rfl) sc_Hall_told_of (d_Hall_told_of z M )
  have h_Hall_numbers : Method P w K mg base 1 "numbers" 1 F_Hall_numbers := callMS (T.t_Hall_numbers.atM fun _ _ _ _ _ _ us hl => match us, hl with | [_], _ => rfl) sc_Hall_numbers (d_Hall_numbers z M )
  have h_law_cell_at : Callee P w K mg base 1 "_law_cell_at" 2 F_law_cell_at := callS (T.t_law_cell_at.at0 X G fun _ _ _ _ _ _ us hl => match us, hl with | [_, _], _ => rfl) sc_law_cell_at (d_law_cell_at z M )
  have h_law_new : Callee P w K mg base 1 "_law_new" 0 F_law_new := callS (T.t_law_new.at0 X G fun _ _ _ _ _ _ us hl => match us, hl with | [], _ => rfl) sc_law_new (d_law_new z M )
  have h_law_take : Callee P w K mg base 1 "_law_take" 3 F_law_take := callS (T.t_law_take.at0 X G fun _ _ _ _ _ _ us hl => match us, hl with | [_, _, _], _ => rfl) sc_law_take (d_law_take z M )
  have h_is_picture : Callee P w K mg base 2 "is_picture" 1 F_is_picture := callS (T.t_is_picture.at0 X G fun _ _ _ _ _ _ us hl => match us, hl with | [_], _ => rfl) sc_is_picture (d_is_picture z M h_is_whole)
  have h_moved : Callee P w K mg base 2 "moved" 2 F_moved := callS (T.t_moved.at0 X G fun _ _ _ _ _ _ us hl => match us, hl with | [_, _], _ => rfl) sc_moved (d_moved z M h_mirrored_rows h_turned_rows)
  have h_is_place : Callee P w K mg base 2 "is_place" 1 F_is_place := callS (T.t_is_place.at0 X G fun _ _ _ _ _ _ us hl => match us, hl with | [_], _ => rfl) sc_is_place (d_is_place z M h_is_word)
  have h_Hall_need : Method P w K mg base 2 "need" 2 F_Hall_need := callMS (T.t_Hall_need.atM fun _ _ _ _ _ _ us hl => match us, hl with | [_, _], _ => rfl) sc_Hall_need (d_Hall_need z M h_is_whole)
  have h_law_mixed : Callee P w K mg base 2 "_law_mixed" 3 F_law_mixed := callS (T.t_law_mixed.at0 X G fun _ _ _ _ _ _ us hl => match us, hl with | [_, _, _], _ => rfl) sc_law_mixed (d_law_mixed z M h_law_cell_at)
  have h_behind : Callee P w K mg base 3 "behind" 2 F_behind := callS (T.t_behind.at0 X G fun _ _ _ _ _ _ us hl => match us, hl with | [_, _], _ => rfl) sc_behind (d_behind z M h_lit h_moved)
  have h_are_files : Callee P w K mg base 3 "are_files" 1 F_are_files := callS (T.t_are_files.at0 X G fun _ _ _ _ _ _ us hl => match us, hl with | [_], _ => rfl) sc_are_files (d_are_files z M h_is_picture h_is_place)
  have h_Hall_number_of : Method P w K mg base 3 "number_of" 2 F_Hall_number_of := callMS (T.t_Hall_number_of.atM fun _ _ _ _ _ _ us hl => match us, hl with | [_, _], _ => rfl) sc_Hall_number_of (d_Hall_number_of z M h_is_picture)
  have h_Hall_first : Method P w K mg base 3 "first" 2 F_Hall_first := callMS (T.t_Hall_first.atM fun _ _ _ _ _ _ us hl => match us, hl with | [_, _], _ => rfl) sc_Hall_first (d_Hall_first z M h_Hall_need)
  have h_Hall_places : Method P w K mg base 3 "places" 2 F_Hall_places := callMS (T.t_Hall_places.atM fun _ _ _ _ _ _ us hl => match us, hl with | [_, _], _ => rfl) sc_Hall_places (d_Hall_places z M h_Hall_need)
  have h_Hall_deeds : Method P w K mg base 3 "deeds" 2 F_Hall_deeds := callMS (T.t_Hall_deeds.atM fun _ _ _ _ _ _ us hl => match us, hl with | [_, _], _ => rfl) sc_Hall_deeds (d_Hall_deeds z M h_Hall_need)
  have h_law_draw : Callee P w K mg base 3 "_law_draw" 3 F_law_draw := callS (T.t_law_draw.at0 X G fun _ _ _ _ _ _ us hl => match us, hl with | [_, _, _], _ => rfl) sc_law_draw (d_law_draw z M h_law_mixed)
  have h_Hall_places_N : Method P w K mg base 3 "places" 2 F_Hall_places_N := callMS (T.t_Hall_places.atM fun _ _ _ _ _ _ us hl => match us, hl with | [_, _], _ => rfl) sc_Hall_places (d_Hall_places_N z M h_Hall_need)
  have h_Hall_take_in : Method P w K mg base 4 "take_in" 3 F_Hall_take_in := callMS (T.t_Hall_take_in.atM fun _ _ _ _ _ _ us hl => match us, hl with | [_, _, _], _ => rfl) sc_Hall_take_in (d_Hall_take_in z M h_Hall_told_of h_are_files h_is_whole)
  have h_Hall_shown : Method P w K mg base 4 "shown" 2 F_Hall_shown := callMS (T.t_Hall_shown.atM fun _ _ _ _ _ _ us hl => match us, hl with | [_, _], _ => rfl) sc_Hall_shown (d_Hall_shown z M h_Hall_need h_behind)
  have h_law_pick : Callee P w K mg base 4 "_law_pick" 3 F_law_pick := callS (T.t_law_pick.at0 X G fun _ _ _ _ _ _ us hl => match us, hl with | [_, _, _], _ => rfl) sc_law_pick (d_law_pick z M h_law_draw)
  have h_law_picture : Callee P w K mg base 5 "_law_picture" 3 F_law_picture := callS (T.t_law_picture.at0 X G fun _ _ _ _ _ _ us hl => match us, hl with | [_, _, _], _ => rfl) sc_law_picture (d_law_picture z M h_law_draw h_law_pick)
  have h_law_places : Callee P w K mg base 5 "_law_places" 3 F_law_places := callD (T.t_law_places.at0 X G fun _ _ _ _ _ _ us hl => match us, hl with | [_, _, _], _ => rfl) sc_law_places (d_law_places z M h_law_draw h_law_pick)
  have h_law_ask : Callee P w K mg base 5 "_law_ask" 4 F_law_ask := callS (T.t_law_ask.at0 X G fun _ _ _ _ _ _ us hl => match us, hl with | [_, _, _, _], _ => rfl) sc_law_ask (d_law_ask z M h_Hall_take_in h_law_which)
  have h_law_files : Callee P w K mg base 6 "_law_files" 4 F_law_files := callD (T.t_law_files.at0 X G fun _ _ _ _ _ _ us hl => match us, hl with | [_, _, _, _], _ => rfl) sc_law_files (d_law_files z M h_law_draw h_law_pick h_law_places)
  have h_law_pictures : Callee P w K mg base 6 "_law_pictures" 3 F_law_pictures := callD (T.t_law_pictures.at0 X G fun _ _ _ _ _ _ us hl => match us, hl with | [_, _, _], _ => rfl) sc_law_pictures (d_law_pictures z M h_law_picture)
  exact end_law FL sc_law (d_law z M h_Hall_init h_Hall_deeds h_Hall_first h_Hall_number_of h_Hall_numbers h_Hall_places h_Hall_places_N h_Hall_shown h_law_ask h_law_draw h_law_files h_law_new h_law_pictures h_law_take) hF
end Py
set_option maxRecDepth 100000
set_option maxHeartbeats 1000000
namespace Py
open PySem PySem.Spec PyProof.Rows L2
theorem ask_take {S : Sto} {x : HIx} {t : HSt} (h : HallAt S x t) (a b : D) : F_law_ask [.ref x.h, .str "take", a, b] S = askW (wOf wL) (F_Hall_take_in [.ref x.h, a, b] S) := by
  have e : F_law_ask [.ref x.h, .str "take", a, b] S = bodyRes (b_law_ask [some (.ref x.h), some (.str "take"), some a, some b, none] S) := rfl
  rw [e]
  unfold b_law_ask
  refine ask_end ?_
  rw [sq_askT rfl (by decide +kernel)]
  exact sq_retC (by rw [h.meth (by simp) nf_take]; simp)
noncomputable abbrev lp1_1 : MS := (sSet 6 (eCall F_law_files (aCons (eVar 0) (aCons (eVar 1) (aCons (eVar 4) (aCons (eC (.int 10)) aNil))))))
noncomputable abbrev lp1_2 : MS := (sIf (tVal (e2 (eqD true) (eCall F_law_ask (aCons (eVar 2) (aCons (eC (.str "take")) (aCons (eVar 5) (aCons (eVar 6) aNil))))) (eCall F_law_take (aCons (eVar 3) (aCons (eVar 5) (aCons (eVar 6) aNil)))))) (sRet (eC (.bl false))) sNil)
noncomputable abbrev lp1_3 : MS := (sIf (tVal (e2 (eqD true) (eMeth "numbers" F_Hall_numbers (eVar 2) aNil) (eCall lenD (aCons (e2 dgetS (eVar 3) (eC (.str "rows"))) aNil)))) (sRet (eC (.bl false))) sNil)
noncomputable abbrev lp1_4 : MS := (sFor (iEnum' (aCons (e2 dgetS (eVar 3) (eC (.str "rows"))) aNil)) (gT 2 (gsC (gN 7) (gsC (gN 8) gs0))) (sSeq (sExpr (eMethL appendD (eMeth "places" F_Hall_places_N (eVar 2) (aCons (eVar 7) aNil)) (aCons (eC .non) aNil))) (sSeq (sIf (tOrM (tVal (e2 (eqD true) (eMeth "first" F_Hall_first (eVar 2) (aCons (eVar 7) aNil)) (e2 dgetS (eVar 8) (eC (.str "first"))))) (tVal (e2 (eqD true) (eMeth "places" F_Hall_places (eVar 2) (aCons (eVar 7) aNil)) (e2 dgetS (eVar 8) (eC (.str "places")))))) (sRet (eC (.bl false))) sNil) (sIf (tOrM (tVal (e2 (eqD true) (eMeth "number_of" F_Hall_number_of (eVar 2) (aCons (e2 dgetS (eVar 8) (eC (.str "first"))) aNil)) (eVar 7))) (tOrM (tVal (e2 (eqD true) (eMeth "shown" F_Hall_shown (eVar 2) (aCons (eVar 7) aNil)) (e2 dgetS (eVar 8) (eC (.str "first"))))) (tVal (e2 (eqD true) (eMeth "deeds" F_Hall_deeds (eVar 2) (aCons (eVar 7) aNil)) (eTup aNil))))) (sRet (eC (.bl false))) sNil))))
noncomputable abbrev lp1 : MS := (sSeq lp1_1 (sSeq lp1_2 (sSeq lp1_3 lp1_4)))
noncomputable abbrev lp2_1 : MS := (sExpr (eMethL appendD (eMeth "places" F_Hall_places_N (eVar 2) (aCons (eVar 7) aNil)) (aCons (eC .non) aNil)))
noncomputable abbrev lp2_2 : MS := (sIf (tOrM (tVal (e2 (eqD true) (eMeth "first" F_Hall_first (eVar 2) (aCons (eVar 7) aNil)) (e2 dgetS (eVar 8) (eC (.str "first"))))) (tVal (e2 (eqD true) (eMeth "places" F_Hall_places (eVar 2) (aCons (eVar 7) aNil)) (e2 dgetS (eVar 8) (eC (.str "places")))))) (sRet (eC (.bl false))) sNil)
noncomputable abbrev lp2_3 : MS := (sIf (tOrM (tVal (e2 (eqD true) (eMeth "number_of" F_Hall_number_of (eVar 2) (aCons (e2 dgetS (eVar 8) (eC (.str "first"))) aNil)) (eVar 7))) (tOrM (tVal (e2 (eqD true) (eMeth "shown" F_Hall_shown (eVar 2) (aCons (eVar 7) aNil)) (e2 dgetS (eVar 8) (eC (.str "first"))))) (tVal (e2 (eqD true) (eMeth "deeds" F_Hall_deeds (eVar 2) (aCons (eVar 7) aNil)) (eTup aNil))))) (sRet (eC (.bl false))) sNil)
noncomputable abbrev lp2 : MS := (sSeq lp2_1 (sSeq lp2_2 lp2_3))
noncomputable abbrev tk1_1 : MS := (sDputS (eNewL aNil) (eVar 5) (eC (.str "places")))
noncomputable abbrev tk1 : MS := tk1_1
noncomputable abbrev tk2_1 : MS := (sSet 10 (eComp [5] (iSeq (eVar 3)) (gN 5) (tVal (e2 (eqD false) (e2 dgetS (eVar 5) (eC (.str "first"))) (eVar 7))) (eVar 5)))
noncomputable abbrev tk2_2 : MS := (sIf (tVal (e2 (eqNilD false) (eVar 10) (eLst aNil))) (sSeq (sSet 10 (eLst (aCons (eDictS [.inr "first", .inr "places", .inr "deeds", .inr "marks", .inr "stars", .inr "moment"] (aCons (eVar 7) (aCons (eNewL aNil) (aCons (eTup aNil) (aCons (eNewL aNil) (aCons (eC (.int 0)) (aCons (eVar 1) aNil))))))) aNil))) (sExpr (eMethL appendD (eVar 3) (aCons (e2 ixD (eVar 10) (eC (.int 0))) aNil)))) sNil)
noncomputable abbrev tk2_3 : MS := (sExpr (eMethL appendD (e2 dgetS (e2 ixD (eVar 10) (eC (.int 0))) (eC (.str "places"))) (aCons (eVar 6) aNil)))
noncomputable abbrev tk2 : MS := (sSeq tk2_1 (sSeq tk2_2 tk2_3))
noncomputable abbrev tk3_1 : MS := (sIf (tVal (e2 geD (eVar 9) (eCall lenD (aCons (eVar 4) aNil)))) (sExpr (eMethL appendD (e2 ixD (eVar 8) (eC (.int 0))) (aCons (eVar 9) aNil))) (sIf (tVal (e2 (eqD true) (e2 ixD (eVar 4) (eVar 9)) (e2 dgetS (eVar 5) (eC (.str "places"))))) (sExpr (eMethL appendD (e2 ixD (eVar 8) (e2 ixD (eLst (aCons (eC (.int 1)) (aCons (eC (.int 2)) (aCons (eC (.int 3)) aNil)))) (e2 addD (eCall intD (aCons (e2 (eqD false) (e2 dgetS (eVar 5) (eC (.str "places"))) (eLst aNil)) aNil)) (e2 mulD (eC (.int 2)) (eCall intD (aCons (e2 (eqD false) (e2 ixD (eVar 4) (eVar 9)) (eLst aNil)) aNil)))))) (aCons (eVar 9) aNil))) sNil))
noncomputable abbrev tk3 : MS := tk3_1
/-! ### the model takes in -/
theorem loop_clrM {n l0 : Nat} {K0 : Nat → Nat} (hn : n ≤ 1000) (a0 a1 a2 a3 a4 a6 a7 a8 a9 a10 : Option D) : ∀ (k j : Nat), j + k = n → ∀ (S : Sto) (x : HIx) (t : HSt) (o5 : Option D), t.n = n → ModAt S x t → x.L 0 = l0 → x.K = K0 →
    ∃ S' x' o, loopF ⟨tb n fun i => .ref (K0 i), some (l0, tb n fun i => .ref (K0 i))⟩ (gN 5) tk1 ((tb n fun i => D.ref (K0 i)).drop j) [a0, a1, a2, a3, a4, o5, a6, a7, a8, a9, a10] S = .nx [a0, a1, a2, a3, a4, o, a6, a7, a8, a9, a10] S' ∧ ModAt S' x' ⟨clrFrom j t.rows, t.past⟩ ∧ Step S S' x x' n n ∧ x'.L 0 = l0
  | 0, j, hj, S, x, t, o5, ht, h, hl, hk => by
    have hjn : j = n := by omega
    refine ⟨S, x, o5, ?_, ?_, .refl _ _ _, hl⟩
    · rw [List.drop_of_length_le (by simp; omega)]
      rw [loopF_nilG]
      show S[l0]? = _
      rw [← hl, h.ir, ht, hk]
    · have : clrFrom j t.rows = t.rows := by unfold clrFrom; rw [List.take_of_length_le (by show t.n ≤ j; omega), List.drop_of_length_le (by show t.n ≤ j; omega)]; simp
      rw [this]; exact h
  | k + 1, j, hj, S, x, t, o5, ht, h, hl, hk => by
    have hjn : j < t.rows.length := by have : j < t.n := by omega
                                       exact this
    obtain ⟨r, hr⟩ : ∃ r, t.rows[j]? = some r := ⟨_, List.getElem?_eq_getElem hjn⟩
    have hkj := h.ik j r hr
    have hkl := (List.getElem?_eq_some_iff.1 hkj).1
    have h1 := h.newP hr
    obtain ⟨S', x', o, e, h2, st, hlen⟩ := loop_clrM (l0 := l0) (K0 := K0) hn a0 a1 a2 a3 a4 a6 a7 a8 a9 a10 k (j + 1) (by omega) _ (x.newP j S.length) (t.setR j (clr r)) (some (.ref (K0 j))) (by simp only [HSt.setR, HSt.n, List.length_set]; exact ht) h1 (by simp only [HIx.newP]; rw [if_neg (by omega)]; exact hl) hk
    refine ⟨S', x', o, ?_, ?_, ?_, hlen⟩
    · rw [List.drop_eq_getElem_cons (by simp; omega), tb_get, loopF_consG (fr1 := [a0, a1, a2, a3, a4, some (.ref (K0 j)), a6, a7, a8, a9, a10]) (fr2 := [a0, a1, a2, a3, a4, some (.ref (K0 j)), a6, a7, a8, a9, a10]) (S2 := (S ++ [O.lst []]).set (x.K j) (rowO S.length (x.L (3 + 2 * j)) r)) _ rfl]
      · exact e
      · have hx : (S ++ [O.lst []])[K0 j]? = some (rowO (x.L (2 + 2 * j)) (x.L (3 + 2 * j)) r) := by rw [← hk, List.getElem?_append_left hkl]; exact hkj
        unfold tk1 tk1_1
        rw [dput_eq (S1 := S ++ [O.lst []]) (S2 := S ++ [O.lst []]) (S3 := S ++ [O.lst []]) (d := .ref S.length) (n := K0 j) (k := "places") (by simp [sz]) (by simp) (by simp) hx (by simp), setA_places, hk]
      · show S[l0]? = _
        rw [← hl, h.ir, ht, hk]
    · have h2' : ModAt S' x' ⟨clrFrom (j + 1) (t.rows.set j (clr r)), t.past⟩ := h2
      rw [clrFrom_step hr] at h2'
      exact h2'
    · have := (Step.newPM h (o := rowO S.length (x.L (3 + 2 * j)) r) (by omega : j < t.n))
      rw [ht] at this
      exact this.trans st
section
variable {S : Sto} {x : HIx} {t : HSt}
abbrev frT (hh l0 : Nat) (m : Int) (a2 a4 o5 o6 o7 o8 o9 o10 : Option D) : Fr := [some (.ref hh), some (.int m), a2, some (.ref l0), a4, o5, o6, o7, o8, o9, o10]
open Classical in
theorem mod_add (h : ModAt S x t) (f : Str × Pic) (m : Int) (ho : ∀ r ∈ t.rows, OkP r.pic) (hn : t.n < 1000) (hl : ∀ r ∈ t.rows, r.places.length < 1000) (a2 a4 o5 o8 o9 o10 : Option D) :
    ∃ S' x' p10, tk2 (frT x.h (x.L 0) m a2 a4 o5 (some (.str f.1)) (some (gr f.2)) o8 o9 o10) S = .nx (frT x.h (x.L 0) m a2 a4 o5 (some (.str f.1)) (some (gr f.2)) o8 o9 p10) S' ∧
      ModAt S' x' ⟨addFile m t.rows f, t.past⟩ ∧ Step S S' x x' t.n (addFile m t.rows f).length ∧ x'.L 0 = x.L 0 := by
  have hi : iSeq (eVar 3) (frT x.h (x.L 0) m a2 a4 o5 (some (.str f.1)) (some (gr f.2)) o8 o9 o10) S = .ok ⟨tb t.n fun i => .ref (x.K i), some (x.L 0, tb t.n fun i => .ref (x.K i))⟩ S := by
    simp [iSeq, seqIts, h.ir]
  let q : Nat → Bool := fun j => decide (gr (t.rows.getD j ⟨((0, 0), fun _ => 0), [], [], [], 0, 0⟩).pic = gr f.2)
  have hq : ∀ (j : Nat) r, t.rows[j]? = some r → (q j = true ↔ gr r.pic = gr f.2) := fun j r hr => by
    have : t.rows.getD j ⟨((0, 0), fun _ => 0), [], [], [], 0, 0⟩ = r := by rw [List.getD_eq_getElem?_getD, hr]; rfl
    simp only [q, this, decide_eq_true_eq]
  have hc : eComp [5] (iSeq (eVar 3)) (gN 5) (tVal (e2 (eqD false) (e2 dgetS (eVar 5) (eC (.str "first"))) (eVar 7))) (eVar 5) (frT x.h (x.L 0) m a2 a4 o5 (some (.str f.1)) (some (gr f.2)) o8 o9 o10) S = .ok (.lst (((List.range t.n).filter q).map fun i => .ref (x.K i))) S := by
    rw [eComp_fst hi q (fun i => .ref (x.K i)) h.ir (by simp; omega) (fun j d hj => ?_)]
    · simp
    · simp only [tb_get?] at hj
      split at hj
      · rename_i hjn
        cases hj
        have hjn' : j < t.rows.length := hjn
        have hrj := List.getElem?_eq_getElem hjn'
        refine ⟨_, rfl, ?_, by simp [wipeF, gN]⟩
        have hgd : t.rows.getD j ⟨((0, 0), fun _ => 0), [], [], [], 0, 0⟩ = t.rows[j] := by rw [List.getD_eq_getElem?_getD, hrj]; rfl
        simp only [ap_val, ap_2, ap_var, ap_c, wipeF, gN, List.set_cons_succ, List.set_cons_zero, List.getElem?_cons_succ, List.getElem?_cons_zero, Res.bind_ok, r_first S (h.ik j _ hrj), eqD_pl (pl_gr 9 _) (pl_gr 9 _), q, hgd]
        simp
      · cases hj
  have hidx := idx_filter (p := f.2) t.rows 0 ho q (fun j r hr => by rw [Nat.zero_add]; exact hq j r hr)
  have hrg : (List.range t.rows.length).map (0 + ·) = List.range t.n := by simp [HSt.n]
  rw [hrg] at hidx
  unfold tk2
  rw [show tk2_1 = sSet 10 (eComp [5] (iSeq (eVar 3)) (gN 5) (tVal (e2 (eqD false) (e2 dgetS (eVar 5) (eC (.str "first"))) (eVar 7))) (eVar 5)) from rfl, sq_set hc]
  simp only [List.set_cons_succ, List.set_cons_zero]
  cases hix : idxP t.rows f.2 with
  | some i =>
    rw [hix] at hidx
    obtain ⟨l, el⟩ := hidx
    obtain ⟨r, hr, _⟩ := idxP_lt hix
    rw [el]
    simp only [List.map_cons, Nat.zero_add]
    have hk := h.ik i r hr
    have hpl := h.il i r hr
    have hown : own x t.n (x.L (2 + 2 * i)) := .inr (.inr (.inr ⟨2 + 2 * i, by have := (List.getElem?_eq_some_iff.1 hr).1; have : i < t.n := this; omega, rfl⟩))
    refine ⟨S.set (x.L (2 + 2 * i)) (.lst (strsD (r.places ++ [f.1]))), x, some (.lst (.ref (x.K i) :: l.map fun i => .ref (x.K i))), ?_, ?_, ?_, rfl⟩
    · rw [show tk2_2 = sIf (tVal (e2 (eqNilD false) (eVar 10) (eLst aNil))) (sSeq (sSet 10 (eLst (aCons (eDictS [.inr "first", .inr "places", .inr "deeds", .inr "marks", .inr "stars", .inr "moment"] (aCons (eVar 7) (aCons (eNewL aNil) (aCons (eTup aNil) (aCons (eNewL aNil) (aCons (eC (.int 0)) (aCons (eVar 1) aNil))))))) aNil))) (sExpr (eMethL appendD (eVar 3) (aCons (e2 ixD (eVar 10) (eC (.int 0))) aNil)))) sNil from rfl]
      rw [sq_f (S1 := S) (by simp [eqNilD])]
      have hix0 : ixD (.lst (.ref (x.K i) :: l.map fun i => .ref (x.K i))) (.int 0) S = .ok (.ref (x.K i)) S := ix_lst (j := 0) rfl (by simp)
      have hlt : (strsD r.places).length < 1000 := by simpa using hl r (List.mem_of_getElem? hr)
      simp only [tk2_3, sExpr, eMethL, ap_2, ap_var, ap_c, List.getElem?_cons_succ, List.getElem?_cons_zero, Res.bind_ok, hix0, r_places S hk, ls_ref hpl, ap_cons, ap_nil, app_lst hpl hlt, Res.then_ok]
      simp
    · simp only [addFile, hix, hr]; exact h.addPl hr f.1
    · simp only [addFile, hix, hr, List.length_set]; exact Step.set _ hown
  | none =>
    rw [hix] at hidx
    rw [hidx]
    let q0 : Row := ⟨f.2, [], [], [], 0, m⟩
    have hA := h.addRow q0 rfl rfl
    have sA := Step.addRowM h q0
    have hr2 : (⟨t.rows ++ [q0], t.past⟩ : HSt).rows[t.n]? = some q0 := by simp [HSt.n]
    have hB := hA.addPl hr2 f.1
    have hk := hA.ik t.n q0 hr2
    have hpl := hA.il t.n q0 hr2
    have kx : (x.addR t.n S.length).K t.n = S.length := by simp [HIx.addR]
    rw [kx] at hk
    refine ⟨((S ++ [rowO (S.length + 1) (S.length + 2) q0, .lst [], .lst []]).set (x.L 0) (.lst ((tb t.n fun i => .ref (x.K i)) ++ [.ref S.length]))).set ((x.addR t.n S.length).L (2 + 2 * t.n)) (.lst (strsD (q0.places ++ [f.1]))), x.addR t.n S.length, some (.lst [.ref S.length]), ?_, ?_, ?_, by simp only [HIx.addR]; rw [if_neg (by omega), if_neg (by omega)]⟩
    rotate_left
    · have hadd : addFile m t.rows f = (t.rows ++ [q0]).set t.n { q0 with places := q0.places ++ [f.1] } := by
        simp only [addFile, hix, HSt.n]
        rw [List.set_append_right _ _ (by omega)]
        simp [q0]
      rw [hadd]
      exact hB
    · have hadd : (addFile m t.rows f).length = t.n + 1 := by simp only [addFile, hix]; simp [HSt.n]
      rw [hadd]
      have hl2 : (⟨t.rows ++ [q0], t.past⟩ : HSt).n = t.n + 1 := by simp [HSt.n]
      refine sA.trans ?_
      have := Step.set (S := ((S ++ [rowO (S.length + 1) (S.length + 2) q0, .lst [], .lst []]).set (x.L 0) (.lst ((tb t.n fun i => .ref (x.K i)) ++ [.ref S.length])))) (x := x.addR t.n S.length) (t := ⟨t.rows ++ [q0], t.past⟩) (j := (x.addR t.n S.length).L (2 + 2 * t.n)) (.lst (strsD (q0.places ++ [f.1]))) (.inr (.inr (.inr ⟨2 + 2 * t.n, by rw [hl2]; omega, rfl⟩)))
      rw [hl2] at this
      exact this
    · rw [show tk2_2 = sIf (tVal (e2 (eqNilD false) (eVar 10) (eLst aNil))) (sSeq (sSet 10 (eLst (aCons (eDictS [.inr "first", .inr "places", .inr "deeds", .inr "marks", .inr "stars", .inr "moment"] (aCons (eVar 7) (aCons (eNewL aNil) (aCons (eTup aNil) (aCons (eNewL aNil) (aCons (eC (.int 0)) (aCons (eVar 1) aNil))))))) aNil))) (sExpr (eMethL appendD (eVar 3) (aCons (e2 ixD (eVar 10) (eC (.int 0))) aNil)))) sNil from rfl]
      rw [sq_t (S1 := S) (by simp [eqNilD])]
      have hdict : eDictS [.inr "first", .inr "places", .inr "deeds", .inr "marks", .inr "stars", .inr "moment"] (aCons (eVar 7) (aCons (eNewL aNil) (aCons (eTup aNil) (aCons (eNewL aNil) (aCons (eC (.int 0)) (aCons (eVar 1) aNil)))))) (frT x.h (x.L 0) m a2 a4 o5 (some (.str f.1)) (some (gr f.2)) o8 o9 (some (.lst (([] : List Nat).map fun i => .ref (x.K i))))) S =
          .ok (.ref S.length) (S ++ [rowO (S.length + 1) (S.length + 2) q0, .lst [], .lst []]) := by
        simp only [eDictS, ap_cons, ap_nil, ap_var, ap_c, ap_newl, ap_tup, List.getElem?_cons_succ, List.getElem?_cons_zero, Res.bind_ok, List.length_nil, Nat.zero_le, if_true]
        simp [List.getElem?_append_right, rowO, q0, deedsD, List.set_append_right]
      rw [sq_nx2 (sset_nx (d := .lst [.ref S.length]) (S1 := S ++ [rowO (S.length + 1) (S.length + 2) q0, .lst [], .lst []]) (by
        simp only [ap_lst, ap_cons, ap_nil, hdict, Res.bind_ok]
        rw [if_pos (by simp [sz])]))]
      simp only [List.set_cons_succ, List.set_cons_zero]
      have lt0 : x.L 0 < S.length := (List.getElem?_eq_some_iff.1 h.ir).1
      generalize hS1 : S ++ [rowO (S.length + 1) (S.length + 2) q0, .lst [], .lst []] = S1 at *
      have g0 : S1[x.L 0]? = some (.lst (tb t.n fun i => .ref (x.K i))) := by
        rw [← hS1, List.getElem?_append_left (by simpa using lt0)]; exact h.ir
      have hix0 : ∀ S', ixD (.lst [.ref S.length]) (.int 0) S' = .ok (.ref S.length) S' := fun S' => ix_lst (j := 0) rfl (by simp)
      rw [sq_ex (S1 := S1.set (x.L 0) (.lst ((tb t.n fun i => .ref (x.K i)) ++ [.ref S.length]))) (d := .non) (by
        simp only [eMethL, ap_var, ap_2, ap_c, List.getElem?_cons_succ, List.getElem?_cons_zero, Res.bind_ok, ls_ref g0, ap_cons, ap_nil, hix0, app_lst g0 (show (tb t.n fun i => D.ref (x.K i)).length < 1000 by simpa using hn)])]
      have hlt : (strsD q0.places).length < 1000 := by simp [q0]
      simp only [tk2_3, sExpr, eMethL, ap_2, ap_var, ap_c, List.getElem?_cons_succ, List.getElem?_cons_zero, Res.bind_ok, hix0, r_places _ hk, ls_ref hpl, ap_cons, ap_nil, app_lst hpl hlt, Res.then_ok]
      simp
end
theorem addFile_okP {m : Int} {rs : List Row} {f : Str × Pic} (hf : OkP f.2) (h : ∀ r ∈ rs, OkP r.pic) : ∀ r ∈ addFile m rs f, OkP r.pic := by
  intro r hr
  unfold addFile at hr
  split at hr
  · split at hr
    · rename_i q hq
      rcases List.mem_or_eq_of_mem_set hr with hr | rfl
      · exact h r hr
      · exact h q (List.mem_of_getElem? hq)
    · exact h r hr
  · rcases List.mem_append.1 hr with hr | hr
    · exact h r hr
    · simp at hr; subst hr; exact hf
theorem loop_addM {it : Its} (hi : it.guard = none) (m : Int) (hh l0 : Nat) (a2 a4 o5 o8 o9 : Option D) : ∀ (fs : List (Str × Pic)) (S : Sto) (x : HIx) (t : HSt) (c : Nat) (o6 o7 o10 : Option D), ModAt S x t → x.h = hh → x.L 0 = l0 → (∀ r ∈ t.rows, OkP r.pic) → (∀ f ∈ fs, OkP f.2) → t.n + fs.length < 1000 → c + fs.length < 1000 → (∀ r ∈ t.rows, r.places.length ≤ c) →
    ∃ S' x' p6 p7 p10, loopF it (gT 2 (gsC (gN 6) (gsC (gN 7) gs0))) tk2 (fs.map fileD) (frT hh l0 m a2 a4 o5 o6 o7 o8 o9 o10) S = .nx (frT hh l0 m a2 a4 o5 p6 p7 o8 o9 p10) S' ∧ ModAt S' x' ⟨fs.foldl (addFile m) t.rows, t.past⟩ ∧ Step S S' x x' t.n (fs.foldl (addFile m) t.rows).length ∧ x'.L 0 = l0
  | [], S, x, t, c, o6, o7, o10, h, e1', e2', ho, hf, hn, hc, hp => by
    refine ⟨S, x, o6, o7, o10, ?_, h, .refl _ _ _, e2'⟩
    rw [List.map_nil, loopF_nilG (by unfold okG; rw [hi]; trivial)]
  | f :: fs, S, x, t, c, o6, o7, o10, h, e1', e2', ho, hf, hn, hc, hp => by
    simp only [List.length_cons] at hn hc
    obtain ⟨S1, x1, p10, e, h1, s1, l1⟩ := mod_add h f m ho (by omega) (fun r hr => by have := hp r hr; omega) a2 a4 o5 o8 o9 o10
    have hlen := addFile_len (m := m) (rs := t.rows) (f := f)
    have hle : (⟨addFile m t.rows f, t.past⟩ : HSt).n ≤ t.n + 1 := hlen
    obtain ⟨S2, x2, p6, p7, q10, e', h2, s2, l2⟩ := loop_addM hi m hh l0 a2 a4 o5 o8 o9 fs S1 x1 ⟨addFile m t.rows f, t.past⟩ (c + 1) (some (.str f.1)) (some (gr f.2)) p10 h1 (s1.hh.trans e1') (l1.trans e2') (addFile_okP (hf f (List.mem_cons_self ..)) ho) (fun g hg => hf g (List.mem_cons_of_mem _ hg)) (by omega) (by omega) (addFile_pl hp)
    refine ⟨S2, x2, p6, p7, q10, ?_, h2, s1.trans s2, l2⟩
    subst e1' e2'
    rw [List.map_cons, loopF_consG (fr1 := frT x.h (x.L 0) m a2 a4 o5 (some (.str f.1)) (some (gr f.2)) o8 o9 o10) (by unfold okG; rw [hi]; trivial) (by simp [gT, gsC, gN, gs0, fileD]) e]
    exact e'
/-! what is told -/
def cls (as bs : List (List Str)) (j : Nat) : Nat := if as.length ≤ j then 0 else if as.getD j [] = bs.getD j [] then 4 else if bs.getD j [] = [] then 2 else if as.getD j [] = [] then 3 else 1
def tl (as bs : List (List Str)) (c k : Nat) : List Nat := (List.range k).filter fun j => decide (cls as bs j = c)
abbrev nl (ks : List Nat) : List D := ks.map fun (k : Nat) => D.int (k : Int)
theorem tl_succ (as bs : List (List Str)) (c k : Nat) : tl as bs c (k + 1) = if cls as bs k = c then tl as bs c k ++ [k] else tl as bs c k := by
  unfold tl
  rw [List.range_succ, List.filter_append]
  by_cases h : cls as bs k = c
  · rw [if_pos h, List.filter_cons_of_pos (by simpa using h)]; simp
  · rw [if_neg h, List.filter_cons_of_neg (by simpa using h)]; simp
abbrev tlO (as bs : List (List Str)) (k : Nat) : Sto := tb 4 fun c => O.lst (nl (tl as bs c k))
theorem tell_app {as bs : List (List Str)} {S : Sto} {c k : Nat} (hc : c < 4) (hk : k < 1000) (h : cls as bs k = c) : appendD (.ref (S.length + c)) [.int (k : Int)] (S ++ tlO as bs k) = .ok .non (S ++ tlO as bs (k + 1)) := by
  have hg : (S ++ tlO as bs k)[S.length + c]? = some (.lst (nl (tl as bs c k))) := by
    rw [List.getElem?_append_right (by omega), show S.length + c - S.length = c by omega, tb_get?, if_pos hc]
  have hl : (nl (tl as bs c k)).length < 1000 := by
    have := List.length_filter_le (fun j => decide (cls as bs j = c)) (List.range k)
    simp [nl, tl] at this ⊢
    omega
  rw [app_lst hg hl, List.set_append_right _ _ (by omega), show S.length + c - S.length = c by omega, tb_setA]
  congr 2
  refine tb_congr fun c' _ => ?_
  rw [tl_succ, h]
  by_cases e : c' = c
  · subst e
    simp [nl]
  · rw [if_neg e, if_neg (fun h => e h.symm)]
theorem tell_none {as bs : List (List Str)} {S : Sto} {k : Nat} (h : cls as bs k = 4) : S ++ tlO as bs (k + 1) = S ++ tlO as bs k := by
  congr 1
  exact tb_congr fun c hc => by rw [tl_succ, if_neg (by omega)]
theorem filter_cut {p : Nat → Bool} {m n : Nat} (h : m ≤ n) (hp : ∀ k, m ≤ k → k < n → p k = false) : (List.range n).filter p = (List.range m).filter p := by
  induction n with
  | zero => have : m = 0 := by omega
            subst this; rfl
  | succ n ih =>
    by_cases c : m = n + 1
    · subst c; rfl
    · rw [List.range_succ, List.filter_append, ih (by omega) (fun k h1 h2 => hp k h1 (by omega)), List.filter_cons_of_neg (by rw [hp n (by omega) (by omega)]; simp)]
      simp
theorem tl_told {as bs : List (List Str)} (h : as.length ≤ bs.length) : toldD as bs = .tup (tb 4 fun c => D.lst (nl (tl as bs c bs.length))) := by
  have e0 : tl as bs 0 bs.length = (List.range (bs.length - as.length)).map (as.length + ·) := filter_ge fun k hk => by
    unfold cls
    by_cases c : as.length ≤ k
    · rw [if_pos c]; simp [c]
    · rw [if_neg c]
      generalize as.getD k [] = a
      generalize bs.getD k [] = b
      by_cases c1 : a = b
      · simp [c1, c]
      · by_cases c2 : b = []
        · subst c2
          simp [c1, c]
        · by_cases c3 : a = [] <;> simp [c1, c2, c3, c]
  have e1 : tl as bs 1 bs.length = movedK as bs := by
    unfold tl movedK
    rw [filter_cut h fun k h1 h2 => by simp [cls, h1]]
    refine List.filter_congr fun k hk => ?_
    have hk := List.mem_range.1 hk
    have c : ¬ as.length ≤ k := by omega
    unfold cls
    rw [if_neg c]
    generalize as.getD k [] = a
    generalize bs.getD k [] = b
    by_cases c1 : a = b
    · subst c1
      by_cases c2 : a = [] <;> simp [c2]
    · by_cases c2 : b = []
      · subst c2
        simp [c1]
      · by_cases c3 : a = []
        · subst c3
          simp [c1, c2]
        · simp [c1, c2, c3]
  have e2 : tl as bs 2 bs.length = lostK as bs := by
    unfold tl lostK
    rw [filter_cut h fun k h1 h2 => by simp [cls, h1]]
    refine List.filter_congr fun k hk => ?_
    have hk := List.mem_range.1 hk
    have c : ¬ as.length ≤ k := by omega
    unfold cls
    rw [if_neg c]
    generalize as.getD k [] = a
    generalize bs.getD k [] = b
    by_cases c1 : a = b
    · subst c1
      by_cases c2 : a = [] <;> simp [c2]
    · by_cases c2 : b = []
      · subst c2
        simp [c1]
      · by_cases c3 : a = []
        · subst c3
          simp [c1, c2]
        · simp [c1, c2, c3]
  have e3 : tl as bs 3 bs.length = foundK as bs := by
    unfold tl foundK
    rw [filter_cut h fun k h1 h2 => by simp [cls, h1]]
    refine List.filter_congr fun k hk => ?_
    have hk := List.mem_range.1 hk
    have c : ¬ as.length ≤ k := by omega
    unfold cls
    rw [if_neg c]
    generalize as.getD k [] = a
    generalize bs.getD k [] = b
    by_cases c1 : a = b
    · subst c1
      by_cases c2 : a = [] <;> simp [c2]
    · by_cases c2 : b = []
      · subst c2
        simp [c1]
      · by_cases c3 : a = []
        · subst c3
          simp [c1, c2]
        · simp [c1, c2, c3]
  have ht : tb 4 (fun c => D.lst (nl (tl as bs c bs.length))) = [.lst (nl (tl as bs 0 bs.length)), .lst (nl (tl as bs 1 bs.length)), .lst (nl (tl as bs 2 bs.length)), .lst (nl (tl as bs 3 bs.length))] := rfl
  rw [ht, e0, e1, e2, e3]
  rfl
theorem told_eq {as bs : List (List Str)} {S : Sto} (h : as.length ≤ bs.length) (neg : Bool) (y : D) : eqD neg y (.tup (tb 4 fun c => .ref (S.length + c))) (S ++ tlO as bs bs.length) = eqD neg y (toldD as bs) (S ++ tlO as bs bs.length) := by
  have hp : dP (S ++ tlO as bs bs.length) (.tup (tb 4 fun c => .ref (S.length + c))) = dP (S ++ tlO as bs bs.length) (toldD as bs) := by
    rw [tl_told h]
    have hg : ∀ c, c < 4 → (S ++ tlO as bs bs.length)[S.length + c]? = some (.lst (nl (tl as bs c bs.length))) := fun c hc => by
      rw [List.getElem?_append_right (by omega), show S.length + c - S.length = c by omega, tb_get?, if_pos hc]
    have hr : ∀ c, c < 4 → toP 11 (S ++ tlO as bs bs.length) (.ref (S.length + c)) = toP 11 (S ++ tlO as bs bs.length) (.lst (nl (tl as bs c bs.length))) := fun c hc => by
      simp only [toP, hg c hc]
    have t1 : tb 4 (fun c => D.ref (S.length + c)) = [.ref (S.length + 0), .ref (S.length + 1), .ref (S.length + 2), .ref (S.length + 3)] := rfl
    have t2 : tb 4 (fun c => D.lst (nl (tl as bs c bs.length))) = [.lst (nl (tl as bs 0 bs.length)), .lst (nl (tl as bs 1 bs.length)), .lst (nl (tl as bs 2 bs.length)), .lst (nl (tl as bs 3 bs.length))] := rfl
    rw [t1, t2]
    show (toPs (toP 11 _) _).map PyData.tuple = (toPs (toP 11 _) _).map PyData.tuple
    simp only [toPs, hr 0 (by omega), hr 1 (by omega), hr 2 (by omega), hr 3 (by omega)]
  simp only [eqD, hp]
section
variable {S : Sto} {x : HIx} {t : HSt}
theorem loop_tell (h : ModAt S x t) {as : List (List Str)} (ha : ∀ zs ∈ as, okS zs = true) (hb : ∀ zs ∈ placesL t, okS zs = true) (hle : as.length ≤ t.n) (hn : t.n < 1000) (a0 a1 a2 a3 a6 a7 a10 : Option D) : ∀ (k j : Nat), j + k = t.n → ∀ (o5 o9 : Option D), ∃ p5 p9,
    loopF ⟨enumD 0 (tb t.n fun i => .ref (x.K i)), some (x.L 0, tb t.n fun i => .ref (x.K i))⟩ (gT 2 (gsC (gN 9) (gsC (gN 5) gs0))) tk3 ((enumD 0 (tb t.n fun i => D.ref (x.K i))).drop j) [a0, a1, a2, a3, some (befD as), o5, a6, a7, some (.tup (tb 4 fun c => .ref (S.length + c))), o9, a10] (S ++ tlO as (placesL t) j) = .nx [a0, a1, a2, a3, some (befD as), p5, a6, a7, some (.tup (tb 4 fun c => .ref (S.length + c))), p9, a10] (S ++ tlO as (placesL t) t.n)
  | 0, j, hj, o5, o9 => by
    refine ⟨o5, o9, ?_⟩
    rw [List.drop_of_length_le (by rw [enumD_len]; simp; omega), loopF_nilG]
    · rw [show j = t.n by omega]
    · exact (h.app _).ir
  | k + 1, j, hj, o5, o9 => by
    have hjn : j < t.rows.length := by have : j < t.n := by omega
                                       exact this
    obtain ⟨r, hr⟩ : ∃ r, t.rows[j]? = some r := ⟨_, List.getElem?_eq_getElem hjn⟩
    obtain ⟨p5, p9, e⟩ := loop_tell h ha hb hle hn a0 a1 a2 a3 a6 a7 a10 k (j + 1) (by omega) (some (.ref (x.K j))) (some (.int j))
    refine ⟨p5, p9, ?_⟩
    have hS := h.app (tlO as (placesL t) j)
    have hit : (enumD 0 (tb t.n fun i => D.ref (x.K i)))[j]? = some (.tup [.int (j : Int), .ref (x.K j)]) := by
      rw [enumD_get 0 _ j (.ref (x.K j)) (by rw [tb_get?, if_pos (by omega)])]; simp
    have hlj : j < (enumD 0 (tb t.n fun i => D.ref (x.K i))).length := (List.getElem?_eq_some_iff.1 hit).1
    have hitg : (enumD 0 (tb t.n fun i => D.ref (x.K i)))[j] = .tup [.int (j : Int), .ref (x.K j)] := (List.getElem?_eq_some_iff.1 hit).2
    rw [List.drop_eq_getElem_cons hlj, hitg, loopF_consG (fr1 := [a0, a1, a2, a3, some (befD as), some (.ref (x.K j)), a6, a7, some (.tup (tb 4 fun c => .ref (S.length + c))), some (.int j), a10]) (fr2 := [a0, a1, a2, a3, some (befD as), some (.ref (x.K j)), a6, a7, some (.tup (tb 4 fun c => .ref (S.length + c))), some (.int j), a10]) (S2 := S ++ tlO as (placesL t) (j + 1)) _ (by simp [gT, gsC, gN, gs0])]
    · exact e
    · -- the step
      have hbj : (placesL t).getD j [] = r.places := by
        rw [List.getD_eq_getElem?_getD, List.getElem?_map, hr]; rfl
      have okr : okS r.places = true := hb _ (List.mem_map_of_mem (List.mem_of_getElem? hr))
      have hk := hS.ik j r hr
      have hpl := hS.il j r hr
      have t8 : ∀ (c : Nat), c < 4 → ∀ S', ixD (.tup (tb 4 fun c => .ref (S.length + c))) (.int (c : Int)) S' = .ok (.ref (S.length + c)) S' := fun c hc S' => t_cell (n := 4) (f := fun c => .ref (S.length + c)) rfl hc
      have lsT : ∀ c, c < 4 → lstOf (S ++ tlO as (placesL t) j) (.ref (S.length + c)) = some (nl (tl as (placesL t) c j)) := fun c hc => by
        refine ls_ref ?_
        rw [List.getElem?_append_right (by omega), show S.length + c - S.length = c by omega, tb_get?, if_pos hc]
      have lb : ∀ S', lenD [befD as] S' = .ok (.int as.length) S' := fun S' => by simp [befD]
      unfold tk3 tk3_1
      by_cases c : as.length ≤ j
      · have hc : cls as (placesL t) j = 0 := by unfold cls; rw [if_pos c]
        have c' : (as.length : Int) ≤ (j : Int) := by omega
        have i0 := t8 0 (by omega) (S ++ tlO as (placesL t) j)
        simp only [Int.natCast_zero] at i0
        rw [si_t (S1 := S ++ tlO as (placesL t) j) (by simp [lb, c'])]
        have := tell_app (as := as) (bs := placesL t) (S := S) (c := 0) (k := j) (by omega) (by omega) hc
        simp only [sExpr, eMethL, ap_2, ap_var, ap_c, List.getElem?_cons_succ, List.getElem?_cons_zero, Res.bind_ok, i0, lsT 0 (by omega), ap_cons, ap_nil, this, Res.then_ok]
      · have c' : ¬ (as.length : Int) ≤ (j : Int) := by omega
        rw [si_f (S1 := S ++ tlO as (placesL t) j) (by simp [lb, c'])]
        have hjl : j < as.length := by omega
        have haj : as.getD j [] = as[j] := by rw [List.getD_eq_getElem?_getD, List.getElem?_eq_getElem hjl]; rfl
        have oka : okS (as.getD j []) = true := by rw [haj]; exact ha _ (List.getElem_mem hjl)
        have ib : ∀ S', ixD (befD as) (.int (j : Int)) S' = .ok (.lst (strsD (as.getD j []))) S' := fun S' => by
          rw [ix_lst (ds := as.map fun zs => .lst (strsD zs)) (j := j) rfl (by simpa using hjl), haj, List.getElem_map]
        have eqp : ∀ neg, eqD neg (.lst (strsD (as.getD j []))) (.ref (x.L (2 + 2 * j))) (S ++ tlO as (placesL t) j) = .ok (.bl (if neg then !decide (as.getD j [] = r.places) else decide (as.getD j [] = r.places))) (S ++ tlO as (placesL t) j) := fun neg => by
          rw [eqD_refR hpl]; exact eq_strs oka okr neg _
        by_cases c1 : as.getD j [] = r.places
        · have hc : cls as (placesL t) j = 4 := by unfold cls; rw [if_neg c, hbj, if_pos c1]
          rw [si_f (S1 := S ++ tlO as (placesL t) j) (by simp only [ap_val, ap_2, ap_var, ap_c, List.getElem?_cons_succ, List.getElem?_cons_zero, Res.bind_ok, ib, r_places _ hk, eqp]; rw [decide_eq_true c1]; rfl)]
          rw [tell_none hc]
          rfl
        · rw [si_t (S1 := S ++ tlO as (placesL t) j) (by simp only [ap_val, ap_2, ap_var, ap_c, List.getElem?_cons_succ, List.getElem?_cons_zero, Res.bind_ok, ib, r_places _ hk, eqp]; rw [decide_eq_false c1]; rfl)]
          have e1' : eqD false (.ref (x.L (2 + 2 * j))) (.lst []) (S ++ tlO as (placesL t) j) = .ok (.bl (decide (r.places = []))) (S ++ tlO as (placesL t) j) := by
            rw [eqD_refL hpl]; exact eq_nil okr false _
          have e2' : eqD false (.lst (strsD (as.getD j []))) (.lst []) (S ++ tlO as (placesL t) j) = .ok (.bl (decide (as.getD j [] = []))) (S ++ tlO as (placesL t) j) := eq_nil oka false _
          have fin : ∀ (v c : Nat), c < 4 → cls as (placesL t) j = c → (∀ S', ixD (.lst [.int 1, .int 2, .int 3]) (.int (v : Int)) S' = .ok (.int (c : Int)) S') → ((if decide (r.places = []) = true then (1 : Int) else 0) + 2 * (if decide (as.getD j [] = []) = true then (1 : Int) else 0) = (v : Int)) →
              sExpr (eMethL appendD (e2 ixD (eVar 8) (e2 ixD (eLst (aCons (eC (.int 1)) (aCons (eC (.int 2)) (aCons (eC (.int 3)) aNil)))) (e2 addD (eCall intD (aCons (e2 (eqD false) (e2 dgetS (eVar 5) (eC (.str "places"))) (eLst aNil)) aNil)) (e2 mulD (eC (.int 2)) (eCall intD (aCons (e2 (eqD false) (e2 ixD (eVar 4) (eVar 9)) (eLst aNil)) aNil)))))) (aCons (eVar 9) aNil)) [a0, a1, a2, a3, some (befD as), some (.ref (x.K j)), a6, a7, some (.tup (tb 4 fun c => .ref (S.length + c))), some (.int (j : Int)), a10] (S ++ tlO as (placesL t) j) = .nx [a0, a1, a2, a3, some (befD as), some (.ref (x.K j)), a6, a7, some (.tup (tb 4 fun c => .ref (S.length + c))), some (.int (j : Int)), a10] (S ++ tlO as (placesL t) (j + 1)) := fun v cc hcc hcl hv hvv => by
            have hta := tell_app (as := as) (bs := placesL t) (S := S) (c := cc) (k := j) hcc (by omega) hcl
            have s2 : smallI 2 := ⟨by decide, by decide⟩
            have l3 : [D.int 1, .int 2, .int 3].length ≤ sz := by simp [sz]
            have l0 : ([] : List D).length ≤ sz := Nat.zero_le _
            have hm : ∀ (b : Int) S', mulD (.int 2) (.int b) S' = .ok (.int (2 * b)) S' := fun b S' => by simp only [mulD]; rw [if_pos (.inl s2)]
            simp only [sExpr, eMethL, ap_2, ap_var, ap_c, ap_lst, ap_call, ap_cons, ap_nil, List.getElem?_cons_succ, List.getElem?_cons_zero, Res.bind_ok, if_pos l3, if_pos l0, r_places _ hk, e1', ib, e2', intD, hm, ap_add, hvv, hv, t8 cc hcc, lsT cc hcc, hta, Res.then_ok]
          by_cases c2 : r.places = []
          · have c3 : ¬ as.getD j [] = [] := fun e => c1 (e.trans c2.symm)
            refine fin 1 2 (by omega) (by unfold cls; rw [if_neg c, hbj, if_neg c1, if_pos c2]) (fun S' => ix_lst (j := 1) rfl (by simp)) ?_
            rw [decide_eq_true c2, decide_eq_false c3]
            rfl
          · by_cases c3 : as.getD j [] = []
            · refine fin 2 3 (by omega) (by unfold cls; rw [if_neg c, hbj, if_neg c1, if_neg c2, if_pos c3]) (fun S' => ix_lst (j := 2) rfl (by simp)) ?_
              rw [decide_eq_false c2, decide_eq_true c3]
              rfl
            · refine fin 0 1 (by omega) (by unfold cls; rw [if_neg c, hbj, if_neg c1, if_neg c2, if_neg c3]) (fun S' => ix_lst (j := 0) rfl (by simp)) ?_
              rw [decide_eq_false c2, decide_eq_false c3]
              rfl
    · exact hS.ir
theorem G_mtake (h : ModAt S x t) {m : Int} {fs : List (Str × Pic)} (hf : FilesOk fs) (ho : ∀ r ∈ t.rows, OkP r.pic) (hn : t.n ≤ 100) (hp : ∀ r ∈ t.rows, okS r.places = true) :
    ∃ S' x' T, F_law_take [.ref x.h, .int m, .tup (fs.map fileD)] S = .ok T S' ∧ (∀ neg y, eqD neg y T S' = eqD neg y (toldD (placesL t) (placesL (takeSt t m fs))) S') ∧ ModAt S' x' (takeSt t m fs) ∧ Step S S' x x' t.n (takeSt t m fs).n := by
  have e : F_law_take [.ref x.h, .int m, .tup (fs.map fileD)] S = bodyRes (b_law_take [some (.ref x.h), some (.int m), some (.tup (fs.map fileD)), none, none, none, none, none, none, none, none] S) := rfl
  have hfl := hf.len
  unfold b_law_take at e
  rw [sq_set (S1 := S) (d := .ref (x.L 0)) (by simp [h.rows])] at e
  simp only [List.set_cons_succ, List.set_cons_zero] at e
  have hit : ∀ (fr : Fr) (S : Sto) (x : HIx) (n : Nat), fr[3]? = some (some (.ref (x.L 0))) → S[x.L 0]? = some (.lst (tb n fun i => .ref (x.K i))) → iSeq (eVar 3) fr S = .ok ⟨tb n fun i => .ref (x.K i), some (x.L 0, tb n fun i => .ref (x.K i))⟩ S := fun fr S x n h3 hg => by
    simp [iSeq, h3, seqIts, hg]
  rw [sq_set (S1 := S) (d := befD (placesL t)) (by
    have := eComp_st (vs := [5]) (g := gN 5) (c := tTrue) (e := eCall listD (aCons (e2 dgetS (eVar 5) (eC (.str "places"))) aNil)) (hit [some (.ref x.h), some (.int m), some (.tup (fs.map fileD)), some (.ref (x.L 0)), none, none, none, none, none, none, none] S x t.n rfl h.ir) (fun j => .lst (strsD ((placesL t).getD j []))) (fun _ => S) rfl (by simp; unfold sz; omega) (fun j d hj => ⟨h.ir, _, rfl, rfl, ?_⟩) h.ir
    · rw [this]
      congr 1
      simp only [tb_len, befD]
      congr 1
      apply List.ext_getElem
      · simp [HSt.n]
      · intro j hj1 hj2
        simp at hj1 hj2
        simp [placesL, List.getD, hj2]
    · simp only [tb_get?] at hj
      split at hj
      · rename_i hjn
        cases hj
        have hjn' : j < t.rows.length := hjn
        have hrj := List.getElem?_eq_getElem hjn'
        simp [wipeF, r_places S (h.ik j _ hrj), listD, seqOf, lstOf, h.il j _ hrj, placesL, List.getD, hjn']
      · cases hj)] at e
  simp only [List.set_cons_succ, List.set_cons_zero] at e
  obtain ⟨S2, x2, o5, eL, h2, s2, l2⟩ := loop_clrM (n := t.n) (l0 := x.L 0) (K0 := x.K) (by omega) (some (.ref x.h)) (some (.int m)) (some (.tup (fs.map fileD))) (some (.ref (x.L 0))) (some (befD (placesL t))) none none none none none t.n 0 (by omega) S x t none rfl h rfl rfl
  have hc0 : clrFrom 0 t.rows = t.rows.map clr := by simp [clrFrom]
  rw [hc0] at h2
  rw [sq_nx (show sFor _ (gN 5) tk1 _ _ = _ by
    simp only [sFor, hit [some (.ref x.h), some (.int m), some (.tup (fs.map fileD)), some (.ref (x.L 0)), some (befD (placesL t)), none, none, none, none, none, none] S x t.n rfl h.ir, Res.then_ok]
    simpa using eL)] at e
  have hn2 : (⟨t.rows.map clr, t.past⟩ : HSt).n = t.n := by simp [HSt.n]
  obtain ⟨S3, x3, b6, b7, b10, eA, h3, s3, l3⟩ := loop_addM (it := ⟨fs.map fileD, none⟩) rfl m x.h (x.L 0) (some (.tup (fs.map fileD))) (some (befD (placesL t))) o5 none none fs S2 x2 ⟨t.rows.map clr, t.past⟩ 0 none none none h2 s2.hh l2 (fun r hr => by obtain ⟨q, hq, rfl⟩ := List.mem_map.1 hr; exact ho q hq) hf.pc (by rw [hn2]; omega) (by omega) (fun r hr => by obtain ⟨q, _, rfl⟩ := List.mem_map.1 hr; simp)
  rw [sq_nx (show sFor _ (gT 2 (gsC (gN 6) (gsC (gN 7) gs0))) tk2 _ _ = _ by
    simp only [sFor, iSeq, ap_var, List.getElem?_cons_succ, List.getElem?_cons_zero, Res.bind_ok, seqIts, Res.then_ok]
    exact eA)] at e
  have h3' : ModAt S3 x3 (takeSt t m fs) := h3
  have hlen : (takeSt t m fs).n = t.n + cntN t.rows fs := takeRows_len m t.rows fs
  have hcl := cntN_le t.rows fs
  have okP : ∀ zs ∈ placesL (takeSt t m fs), okS zs = true := fun zs hz => by
    obtain ⟨r, hr, rfl⟩ := List.mem_map.1 hz
    exact fold_ok (fun f hf' => (placeOk_iff.1 (hf.pl f hf')).2.2.2.2.1) (fun r hr => by obtain ⟨q, _, rfl⟩ := List.mem_map.1 hr; rfl) r hr
  rw [sq_set (S1 := S3 ++ tlO (placesL t) (placesL (takeSt t m fs)) 0) (d := .tup (tb 4 fun c => .ref (S3.length + c))) (by
    have l0 : ([] : List D).length ≤ sz := Nat.zero_le _
    have e0 : ∀ c, nl (tl (placesL t) (placesL (takeSt t m fs)) c 0) = [] := fun c => by simp [tl, nl]
    have et : tlO (placesL t) (placesL (takeSt t m fs)) 0 = [O.lst [], .lst [], .lst [], .lst []] := by
      show tb 4 _ = _
      simp only [e0]
      rfl
    rw [et]
    simp only [ap_tup, ap_cons, ap_nil, ap_newl, Res.bind_ok, if_pos l0]
    rw [if_pos (by simp [sz])]
    simp
    rfl)] at e
  simp only [List.set_cons_succ, List.set_cons_zero] at e
  have hle : (placesL t).length ≤ (placesL (takeSt t m fs)).length := by
    simp only [placesL, List.length_map]
    have : (takeSt t m fs).rows.length = (takeSt t m fs).n := rfl
    rw [this, hlen]
    exact Nat.le_add_right _ _
  have hle' : (placesL t).length ≤ (takeSt t m fs).n := by simpa [placesL] using hle
  obtain ⟨p5, p9, eT⟩ := loop_tell h3' (as := placesL t) (fun zs hz => by obtain ⟨r, hr, rfl⟩ := List.mem_map.1 hz; exact hp r hr) okP hle' (by omega) (some (.ref x.h)) (some (.int m)) (some (.tup (fs.map fileD))) (some (.ref (x.L 0))) b6 b7 b10 (takeSt t m fs).n 0 (by omega) o5 none
  have hS := h3'.app (tlO (placesL t) (placesL (takeSt t m fs)) 0)
  rw [sq_nx (show sFor _ (gT 2 (gsC (gN 9) (gsC (gN 5) gs0))) tk3 _ _ = _ by
    have hg : (S3 ++ tlO (placesL t) (placesL (takeSt t m fs)) 0)[x.L 0]? = some (.lst (tb (takeSt t m fs).n fun i => .ref (x3.K i))) := by
      have := hS.ir
      rw [l3] at this
      exact this
    simp only [sFor, iEnum', ap_cons, ap_nil, ap_var, List.getElem?_cons_succ, List.getElem?_cons_zero, Res.bind_ok, hg, Res.then_ok]
    rw [l3] at eT
    simpa using eT)] at e
  have hbl : (placesL (takeSt t m fs)).length = (takeSt t m fs).n := by show (List.map _ _).length = _; rw [List.length_map]
  refine ⟨S3 ++ tlO (placesL t) (placesL (takeSt t m fs)) (takeSt t m fs).n, x3, .tup (tb 4 fun c => .ref (S3.length + c)), ?_, fun neg y => ?_, h3'.app _, ?_⟩
  · rw [e, s_ret (S1 := S3 ++ tlO (placesL t) (placesL (takeSt t m fs)) (takeSt t m fs).n) (d := .tup (tb 4 fun c => .ref (S3.length + c))) (by simp)]
    rfl
  · rw [← hbl]; exact told_eq hle neg y
  · rw [hn2] at s3
    have s3' : Step S2 S3 x2 x3 t.n (takeSt t m fs).n := s3
    exact (s2.trans s3').trans (Step.app (t := takeSt t m fs) _)
end
/-! ### the law -/
theorem G_new (S : Sto) : ∃ y, F_law_new [] S = .ok (.ref y.h) (S ++ [modO y, .lst [], .lst []]) ∧ ModAt (S ++ [modO y, .lst [], .lst []]) y ⟨[], []⟩ ∧ ∀ i, own y 0 i → S.length ≤ i := by
  let y : HIx := ⟨S.length, S.length, fun _ => 0, fun a => if a = 0 then S.length + 1 else S.length + 2⟩
  refine ⟨y, ?_, ?_, ?_⟩
  · show bodyRes (b_law_new [] S) = _
    unfold b_law_new
    rw [s_ret (S1 := S ++ [modO y, .lst [], .lst []]) (d := .ref S.length) (by
      simp only [eDictS, ap_cons, ap_nil, ap_newl, Res.bind_ok, List.length_nil, Nat.zero_le, if_true]
      simp [List.getElem?_append_right, modO, y, List.set_append_right])]
    rfl
  · have g : ∀ (k : Nat) (o : O), [modO y, .lst [], .lst []][k]? = some o → (S ++ [modO y, .lst [], .lst []])[S.length + k]? = some o := fun k o hk => by
      rw [List.getElem?_append_right (by omega)]; simpa using hk
    refine ⟨g 0 _ rfl, g 1 _ rfl, g 2 _ rfl, fun i r h => by simp at h, fun i r h => by simp at h, fun i r h => by simp at h, fun i j h => by simp [HSt.n] at h, fun a b ha hb hab => ?_, rfl⟩
    simp [HSt.n] at ha hb
    simp only [y] at hab
    split at hab <;> split at hab <;> omega
  · rintro i (rfl | rfl | ⟨j, hj, rfl⟩ | ⟨a, ha, rfl⟩)
    · exact Nat.le_refl _
    · exact Nat.le_refl _
    · omega
    · simp only [y]
      split <;> omega
abbrev frL (ns : List Int) (hh mh : Nat) (pd : List D) (o5 o6 o7 o8 : Option D) : Fr := [some (scr ns), some (.ref 0), some (.ref hh), some (.ref mh), some (.lst pd), o5, o6, o7, o8]
theorem loop_same (ns : List Int) {ps : List Pic} (pok : ∀ p ∈ ps, OkP p) {n hh mh : Nat} {x y : HIx} {t : HSt} (hx : x.h = hh) (ri : RInv ps t.rows) (ro : ∀ r ∈ t.rows, RowOk r ∧ r.deeds = []) (hn : t.n < 1000) (pd : List D) (o5 o6 : Option D) : ∀ (k j : Nat), j + k = t.n → ∀ (R : Sto) (o7 o8 : Option D), HA R x t → MoA R y t → ∃ R' p7 p8,
    loopF ⟨enumD 0 (tb t.n fun i => .ref (y.K i)), some (y.L 0, tb t.n fun i => .ref (y.K i))⟩ (gT 2 (gsC (gN 7) (gsC (gN 8) gs0))) lp2 ((enumD 0 (tb t.n fun i => D.ref (y.K i))).drop j) (frL ns hh mh pd o5 o6 o7 o8) (Tn n R) = .nx (frL ns hh mh pd o5 o6 p7 p8) (Tn n R') ∧ HA R' x t ∧ MoA R' y t
  | 0, j, hj, R, o7, o8, h, hm => by
    refine ⟨R, o7, o8, ?_, h, hm⟩
    rw [List.drop_of_length_le (by rw [enumD_len]; simp; omega), loopF_nilG]
    exact (hm.at n).ir
  | k + 1, j, hj, R, o7, o8, h, hm => by
    have hjn : j < t.rows.length := by have : j < t.n := by omega
                                       exact this
    obtain ⟨r, hr⟩ : ∃ r, t.rows[j]? = some r := ⟨_, List.getElem?_eq_getElem hjn⟩
    obtain ⟨rok, rd⟩ := ro r (List.mem_of_getElem? hr)
    have h1 := h.app [O.lst (strsD r.places ++ [.non])]
    have hm1 := hm.app [O.lst (strsD r.places ++ [.non])]
    obtain ⟨R', p7, p8, e, hR, hmR⟩ := loop_same ns pok hx ri ro hn pd o5 o6 k (j + 1) (by omega) (R ++ [O.lst (strsD r.places ++ [.non])]) (some (.int j)) (some (.ref (y.K j))) h1 hm1
    refine ⟨R', p7, p8, ?_, hR, hmR⟩
    have hit : (enumD 0 (tb t.n fun i => D.ref (y.K i)))[j]? = some (.tup [.int (j : Int), .ref (y.K j)]) := by
      rw [enumD_get 0 _ j (.ref (y.K j)) (by rw [tb_get?, if_pos (by omega)])]; simp
    have hlj : j < (enumD 0 (tb t.n fun i => D.ref (y.K i))).length := (List.getElem?_eq_some_iff.1 hit).1
    have hitg : (enumD 0 (tb t.n fun i => D.ref (y.K i)))[j] = .tup [.int (j : Int), .ref (y.K j)] := (List.getElem?_eq_some_iff.1 hit).2
    rw [List.drop_eq_getElem_cons hlj, hitg, loopF_consG (fr1 := frL ns hh mh pd o5 o6 (some (.int j)) (some (.ref (y.K j)))) (fr2 := frL ns hh mh pd o5 o6 (some (.int j)) (some (.ref (y.K j)))) (S2 := Tn n (R ++ [O.lst (strsD r.places ++ [.non])])) _ (by simp [gT, gsC, gN, gs0])]
    · exact e
    · subst hx
      have m3 : eMethL appendD (eMeth "places" F_Hall_places_N (eVar 2) (aCons (eVar 7) aNil)) (aCons (eC .non) aNil) (frL ns x.h mh pd o5 o6 (some (.int j)) (some (.ref (y.K j)))) (Tn n R) = .ok .non (Tn n (R ++ [O.lst (strsD r.places ++ [.non])])) := by
        have hmt : eMeth "places" F_Hall_places_N (eVar 2) (aCons (eVar 7) aNil) (frL ns x.h mh pd o5 o6 (some (.int j)) (some (.ref (y.K j)))) (Tn n R) = .ok (.ref (R.length + 1)) (Tn n (R ++ [O.lst (strsD r.places)])) := by
          rw [(h.at n).meth (by simp) nf_places]
          simp [G_placesN (h.at n) hr]
        have hg : (Tn n (R ++ [O.lst (strsD r.places)]))[R.length + 1]? = some (.lst (strsD r.places)) := by simp
        have hlt : (strsD r.places).length < sz := by have := rok.lp; simp; unfold sz; omega
        simp only [eMethL, hmt, Res.bind_ok, ls_ref hg, ap_cons, ap_nil, ap_c, appendD, hg, if_pos hlt]
        simp [List.set_append_right]
      unfold lp2
      rw [sq_ex m3]
      generalize R ++ [O.lst (strsD r.places ++ [.non])] = R2 at h1 hm1
      have hA := h1.at n
      have mk := (hm1.at n).ik j r hr
      have mp := (hm1.at n).il j r hr
      have f1 : eMeth "first" F_Hall_first (eVar 2) (aCons (eVar 7) aNil) (frL ns x.h mh pd o5 o6 (some (.int j)) (some (.ref (y.K j)))) (Tn n R2) = .ok (gr r.pic) (Tn n R2) := by
        rw [hA.meth (by simp) nf_first]; simp [G_first hA hr]
      have f2 : eMeth "places" F_Hall_places (eVar 2) (aCons (eVar 7) aNil) (frL ns x.h mh pd o5 o6 (some (.int j)) (some (.ref (y.K j)))) (Tn n R2) = .ok (.lst (strsD r.places)) (Tn n R2) := by
        rw [hA.meth (by simp) nf_places]; simp [G_places hA hr]
      have f3 : eMeth "number_of" F_Hall_number_of (eVar 2) (aCons (e2 dgetS (eVar 8) (eC (.str "first"))) aNil) (frL ns x.h mh pd o5 o6 (some (.int j)) (some (.ref (y.K j)))) (Tn n R2) = .ok (.int j) (Tn n R2) := by
        rw [hA.meth (by simp) nf_number_of]; simp [r_first _ mk, G_numberOf hA (pok _ (ri.pin r (List.mem_of_getElem? hr))) (ri.idx pok hr)]
      have f4 : eMeth "shown" F_Hall_shown (eVar 2) (aCons (eVar 7) aNil) (frL ns x.h mh pd o5 o6 (some (.int j)) (some (.ref (y.K j)))) (Tn n R2) = .ok (gr r.pic) (Tn n R2) := by
        rw [hA.meth (by simp) nf_shown]; simp [G_shown hA hr rok.fit, rd, shown_nil]
      have f5 : eMeth "deeds" F_Hall_deeds (eVar 2) (aCons (eVar 7) aNil) (frL ns x.h mh pd o5 o6 (some (.int j)) (some (.ref (y.K j)))) (Tn n R2) = .ok (.tup []) (Tn n R2) := by
        rw [hA.meth (by simp) nf_deeds]; simp [G_deedsM hA hr, rd, deedsD]
      have qp : eqD true (.lst (strsD r.places)) (.ref (y.L (2 + 2 * j))) (Tn n R2) = .ok (.bl false) (Tn n R2) := by
        rw [eqD_refR mp]; exact eq_self (pl_strs 10 rok.op) true _
      have qg := fun S => eq_self (pl_gr 9 r.pic) true S
      rw [sq_f (S1 := Tn n R2) (by
        simp only [ap_tor, ap_val, ap_2, f1, f2, Res.bind_ok, ap_var, ap_c, List.getElem?_cons_succ, List.getElem?_cons_zero, r_first _ mk, r_places _ mk, qg, qp]
        simp)]
      have t3 : tOrM (tVal (e2 (eqD true) (eMeth "number_of" F_Hall_number_of (eVar 2) (aCons (e2 dgetS (eVar 8) (eC (.str "first"))) aNil)) (eVar 7))) (tOrM (tVal (e2 (eqD true) (eMeth "shown" F_Hall_shown (eVar 2) (aCons (eVar 7) aNil)) (e2 dgetS (eVar 8) (eC (.str "first"))))) (tVal (e2 (eqD true) (eMeth "deeds" F_Hall_deeds (eVar 2) (aCons (eVar 7) aNil)) (eTup aNil)))) (frL ns x.h mh pd o5 o6 (some (.int j)) (some (.ref (y.K j)))) (Tn n R2) = .ok false (Tn n R2) := by
        have l0 : ([] : List D).length ≤ sz := Nat.zero_le _
        have q5 := fun S => eq_self (d := .tup []) rfl true S
        simp only [ap_tor, ap_val, ap_2, f3, f4, f5, Res.bind_ok, ap_var, ap_c, ap_tup, ap_nil, if_pos l0, List.getElem?_cons_succ, List.getElem?_cons_zero, r_first _ mk, qg, q5, ap_nei]
        simp
      unfold lp2_3
      rw [si_f t3]
      rfl
    · exact (hm.at n).ir
theorem law_true : ∀ ns : List Int, ns.length ≤ 63 → ∃ S, fnS 1 9 b_law [.fz (ns.map .int)] [] = .ok (.bl true) S := by
  intro ns _
  have e : fnS 1 9 b_law [.fz (ns.map .int)] [] = bodyRes (b_law [some (scr ns), none, none, none, none, none, none, none, none] []) := rfl
  rw [e]
  unfold b_law
  rw [sq_set (S1 := Tn 0 []) (d := .ref 0) (by simp)]
  simp only [List.set_cons_succ, List.set_cons_zero]
  obtain ⟨R1, x1, em, h1, _, _⟩ := fr_new ns 0 [] [some (scr ns), some (.ref 0), none, none, none, none, none, none, none]
  rw [sq_set (S1 := Tn 0 R1) (d := .ref x1.h) em]
  simp only [List.set_cons_succ, List.set_cons_zero]
  obtain ⟨y1, ey, hy, oy⟩ := G_new (Tn 0 R1)
  rw [sq_set (S1 := Tn 0 (R1 ++ [modO y1, .lst [], .lst []])) (d := .ref y1.h) (by simp only [ap_call, ap_nil, Res.bind_ok]; exact ey)]
  simp only [List.set_cons_succ, List.set_cons_zero]
  have h2 : HA (R1 ++ [modO y1, .lst [], .lst []]) x1 ⟨[], []⟩ := h1.app _
  have hm2 : MoA (R1 ++ [modO y1, .lst [], .lst []]) y1 ⟨[], []⟩ := ⟨hy, fun o => by have := oy 0 o; simp at this⟩
  have dj2 : Dj x1 y1 0 0 := fun i ox oy' => by
    have a := h1.h0.lt ox
    have b := oy i oy'
    omega
  generalize R1 ++ [modO y1, .lst [], .lst []] = R2 at h2 hm2
  obtain ⟨ps, n1, p0, p8, pok, pnd, hn1, ep⟩ := G_pictures ns 0 8 (by decide) (by decide) (by decide) R2
  have ep' : F_law_pictures [scr ns, .ref 0, .int 8] (Tn 0 R2) = .ok (.lst (ps.map gr)) (Tn n1 R2) := ep
  rw [sq_set (S1 := Tn n1 R2) (d := .lst (ps.map gr)) (by simp [ep'])]
  simp only [List.set_cons_succ, List.set_cons_zero]
  have pok' : ∀ p ∈ ps, OkP p := fun p hp => (pok p hp).1
  obtain ⟨m, hm, dm⟩ := F_drawN ns n1 (many := 8) (by decide) (by omega) R2
  have dm' : F_law_draw [scr ns, .ref 0, .int 8] (Tn n1 R2) = .ok (.int m) (Tn (n1 + 1) R2) := dm
  obtain ⟨fr', S', f, ⟨n, R, x, y, t, o5, o6, o7, o8, efr, eS, _⟩⟩ := for_rng_inv (f := aCons (eCall F_law_draw (aCons (eVar 0) (aCons (eVar 1) (aCons (eC (.int 8)) aNil)))) aNil) (i := 5) (n := m) (body := lp1) (S0 := Tn n1 R2) (S := Tn (n1 + 1) R2) (fr := frL ns x1.h y1.h (ps.map gr) none none none none)
    (fun k fr S => ∃ (n : Nat) (R : Sto) (x y : HIx) (t : HSt) (o5 o6 o7 o8 : Option D), fr = frL ns x1.h y1.h (ps.map gr) o5 o6 o7 o8 ∧ S = Tn n R ∧ (x.h = x1.h ∧ y.h = y1.h ∧ HA R x t ∧ MoA R y t ∧ Dj x y t.n t.n ∧ RInv ps t.rows ∧ (∀ r ∈ t.rows, RowOk r ∧ r.deeds = []) ∧ n ≤ n1 + 1 + 200 * k))
    (by simp [dm']) (by omega) ⟨n1 + 1, R2, x1, y1, ⟨[], []⟩, none, none, none, none, rfl, rfl, rfl, rfl, h2, hm2, dj2, RInv.nil _, by simp, by omega⟩ (by
      rintro k hk fr S ⟨n, R, x, y, t, o5, o6, o7, o8, rfl, rfl, hx, hy, h, hm, dj, ri, ro, hn⟩
      simp only [List.set_cons_succ, List.set_cons_zero]
      obtain ⟨fs, n', fl, fok, fin, hn', ef⟩ := G_lfiles ns n 10 (by decide) (by omega) ps p0 pok' R
      have ef' : F_law_files [scr ns, .ref 0, .lst (ps.map gr), .int 10] (Tn n R) = .ok (.tup (fs.map fileD)) (Tn n' R) := ef
      have ht8 : t.n ≤ 8 := by have := ri.len; show t.rows.length ≤ 8; omega
      have hcn := ri.cnt pok' fin
      obtain ⟨R3, x3, et, h3, s3⟩ := h.take n' (m := (k : Int)) (by omega) (by omega) fok (by omega) (fun r hr => (ro r hr).1.op) (by show t.rows.length + _ ≤ 60; omega)
      obtain ⟨hm3, dj3⟩ := hm.step dj s3
      obtain ⟨S4, y4, T, em, eqT, hy4, s4⟩ := G_mtake (hm3.at n') (m := (k : Int)) fok (fun r hr => pok' _ (ri.pin r hr)) (by omega) (fun r hr => (ro r hr).1.op)
      obtain ⟨R4, rfl, s4', z4⟩ := step_lift hm3.z s4
      obtain ⟨h4, dj4⟩ := h3.step dj3.symm s4'
      have hm4 : MoA R4 y4 (takeSt t k fs) := .of hy4 z4
      have ri4 : RInv ps (takeSt t k fs).rows := ri.take pok' _ fin
      have ro4 : ∀ r ∈ (takeSt t k fs).rows, RowOk r ∧ r.deeds = [] := fun r hr => ⟨take_rowOk (fun r hr => (ro r hr).1) fok r hr, take_all (Q := fun r => r.deeds = []) (fun r zs h => h) (fun r hr => (ro r hr).2) (fun f _ => rfl) r hr⟩
      have ht4 : (takeSt t k fs).n ≤ 8 := by have := ri4.len; show (takeSt t k fs).rows.length ≤ 8; omega
      have hx3 : x3.h = x1.h := s3.hh.trans hx
      have hy4' : y4.h = y1.h := s4'.hh.trans hy
      unfold lp1
      rw [show lp1_1 = sSet 6 (eCall F_law_files (aCons (eVar 0) (aCons (eVar 1) (aCons (eVar 4) (aCons (eC (.int 10)) aNil))))) from rfl, sq_set (S1 := Tn n' R) (d := .tup (fs.map fileD)) (by simp [ef'])]
      simp only [List.set_cons_succ, List.set_cons_zero]
      have ask1 : F_law_ask [.ref x1.h, .str "take", .int k, .tup (fs.map fileD)] (Tn n' R) = .ok (toldD (placesL t) (placesL (takeSt t k fs))) (Tn n' R3) := by
        have := ask_take (h.at n') (.int k) (.tup (fs.map fileD))
        rw [hx] at this et
        rw [this, et]; rfl
      rw [hy] at em
      generalize (fs.map fileD) = FD at ask1 em
      rw [show lp1_2 = sIf (tVal (e2 (eqD true) (eCall F_law_ask (aCons (eVar 2) (aCons (eC (.str "take")) (aCons (eVar 5) (aCons (eVar 6) aNil))))) (eCall F_law_take (aCons (eVar 3) (aCons (eVar 5) (aCons (eVar 6) aNil)))))) (sRet (eC (.bl false))) sNil from rfl]
      rw [sq_f (S1 := Tn n' R4) (by
        simp only [ap_val, ap_2, ap_call, ap_cons, ap_nil, ap_var, ap_c, List.getElem?_cons_succ, List.getElem?_cons_zero, Res.bind_ok, ask1, em, eqT, eq_self (pl_told 9 _ _)]
        rfl)]
      have hA := h4.at n'
      have hM := hm4.at n'
      have hrw := hM.rows
      rw [hy4'] at hrw
      have lr : lenD [.ref (y4.L 0)] (Tn n' R4) = .ok (.int (takeSt t k fs).n) (Tn n' R4) := by
        simp only [lenD, seqOf, ls_ref hM.ir, tb_len]
      have mn : eMeth "numbers" F_Hall_numbers (eVar 2) aNil (frL ns x1.h y1.h (ps.map gr) (some (.int k)) (some (.tup FD)) o7 o8) (Tn n' R4) = .ok (.int (takeSt t k fs).n) (Tn n' R4) := by
        rw [hA.meth (by simp [hx3]) nf_numbers]; simp [G_numbers hA]
      rw [show lp1_3 = sIf (tVal (e2 (eqD true) (eMeth "numbers" F_Hall_numbers (eVar 2) aNil) (eCall lenD (aCons (e2 dgetS (eVar 3) (eC (.str "rows"))) aNil)))) (sRet (eC (.bl false))) sNil from rfl]
      rw [sq_f (S1 := Tn n' R4) (by
        simp only [ap_val, ap_2, mn, Res.bind_ok, ap_call, ap_cons, ap_nil, ap_var, ap_c, List.getElem?_cons_succ, List.getElem?_cons_zero, hrw, lr, ap_nei]
        simp)]
      obtain ⟨R5, p7, p8', eL, h5, hm5⟩ := loop_same ns pok' (n := n') (mh := y1.h) hx3 ri4 ro4 (by omega) (ps.map gr) (some (.int k)) (some (.tup FD)) (takeSt t k fs).n 0 (by omega) R4 o7 o8 h4 hm4
      refine ⟨_, _, ?_, n', R5, x3, y4, takeSt t k fs, some (.int k), some (.tup FD), p7, p8', rfl, rfl, hx3, hy4', h5, hm5, dj4.symm, ri4, ro4, by omega⟩
      show sFor _ (gT 2 (gsC (gN 7) (gsC (gN 8) gs0))) lp2 _ _ = _
      simp only [sFor, iEnum', ap_cons, ap_nil, ap_2, ap_c, ap_var, List.getElem?_cons_succ, List.getElem?_cons_zero, Res.bind_ok, hrw, hM.ir, Res.then_ok]
      simpa using eL)
  subst efr eS
  rw [sq_nx f]
  exact ⟨_, rfl⟩
end Py
open PySem PySem.W PyProof.Rows
set_option maxRecDepth 100000 in
set_option maxHeartbeats 0 in
theorem PySem.Challenge.cw_picturehall_k08_whole_taken_in_holds : PySem.Challenge.rw_picturehall_k08_whole_taken_in.Holds := by
  w_on; o_law; k_head; (case hw => w_witness2)
  k_fill
  refine L2.walk_of (l := PySem.Challenge.rw_picturehall_k08_whole_taken_in) (n := 63) (k := 7) (x := "script") (CX := fun w => L2N.CX (PySem.Challenge.rw_picturehall_k08_whole_taken_in).prog w) (sp := fun w => Py.spEnd _) rfl (by decide) rfl ⟨rfl, by decide, by decide⟩ (fun w h Y => PySem.W.kIn_of Y) ?F (fun _ _ a ns hl ho hS => Py.end_sp hl ho hS) (fun _ _ _ _ _ h => Py.cxn_false h)
  case F =>
    intro w mg fa h KX G hmg
    refine Py.all_ok KX G hmg ?gT ?gz ?gM Py.law_true
    case gT =>
      refine ⟨?t0, ?t1, ?t2, ?t3, ?t4, ?t5, ?t6, ?t7, ?t8, ?t9, ?t10, ?t11, ?t12, ?t13, ?t14, ?t15, ?t16, ?t17, ?t18, ?t19, ?t20, ?t21, ?t22, ?t23, ?t24, ?t25, ?t26, ?t27, ?t28, ?t29, ?t30, ?t31, ?t32⟩
      case t0 => (refine' Py.def_mk ?a ?l ?c ?k; (case a => k_is); (case l => k_is); (case c => k_is); (case k => k_is))
      case t1 => (refine' Py.def_mk ?a ?l ?c ?k; (case a => k_is); (case l => k_is); (case c => k_is); (case k => k_is))
      case t2 => (refine' Py.def_mk ?a ?l ?c ?k; (case a => k_is); (case l => k_is); (case c => k_is); (case k => k_is))
      case t3 => (refine' Py.def_mk ?a ?l ?c ?k; (case a => k_is); (case l => k_is); (case c => k_is); (case k => k_is))
      case t4 => (refine' Py.def_mk ?a ?l ?c ?k; (case a => k_is); (case l => k_is); (case c => k_is); (case k => k_is))
      case t5 => (refine' Py.mdef_mk ?aC ?a ?i ?l ?c ?k; (case aC => k_is); (case a => k_is); (case i => k_is); (case l => k_is); (case c => k_is); (case k => k_is))
      case t6 => (refine' Py.mdef_mk ?aC ?a ?i ?l ?c ?k; (case aC => k_is); (case a => k_is); (case i => k_is); (case l => k_is); (case c => k_is); (case k => k_is))
      case t7 => (refine' Py.mdef_mk ?aC ?a ?i ?l ?c ?k; (case aC => k_is); (case a => k_is); (case i => k_is); (case l => k_is); (case c => k_is); (case k => k_is))
      case t8 => (refine' Py.def_mk ?a ?l ?c ?k; (case a => k_is); (case l => k_is); (case c => k_is); (case k => k_is))
      case t9 => (refine' Py.def_mk ?a ?l ?c ?k; (case a => k_is); (case l => k_is); (case c => k_is); (case k => k_is))
      case t10 => (refine' Py.def_mk ?a ?l ?c ?k; (case a => k_is); (case l => k_is); (case c => k_is); (case k => k_is))
      case t11 => (refine' Py.def_mk ?a ?l ?c ?k; (case a => k_is); (case l => k_is); (case c => k_is); (case k => k_is))
      case t12 => (refine' Py.def_mk ?a ?l ?c ?k; (case a => k_is); (case l => k_is); (case c => k_is); (case k => k_is))
      case t13 => (refine' Py.def_mk ?a ?l ?c ?k; (case a => k_is); (case l => k_is); (case c => k_is); (case k => k_is))
      case t14 => (refine' Py.mdef_mk ?aC ?a ?i ?l ?c ?k; (case aC => k_is); (case a => k_is); (case i => k_is); (case l => k_is); (case c => k_is); (case k => k_is))
      case t15 => (refine' Py.def_mk ?a ?l ?c ?k; (case a => k_is); (case l => k_is); (case c => k_is); (case k => k_is))
      case t16 => (refine' Py.def_mk ?a ?l ?c ?k; (case a => k_is); (case l => k_is); (case c => k_is); (case k => k_is))
      case t17 => (refine' Py.def_mk ?a ?l ?c ?k; (case a => k_is); (case l => k_is); (case c => k_is); (case k => k_is))
      case t18 => (refine' Py.mdef_mk ?aC ?a ?i ?l ?c ?k; (case aC => k_is); (case a => k_is); (case i => k_is); (case l => k_is); (case c => k_is); (case k => k_is))
      case t19 => (refine' Py.mdef_mk ?aC ?a ?i ?l ?c ?k; (case aC => k_is); (case a => k_is); (case i => k_is); (case l => k_is); (case c => k_is); (case k => k_is))
      case t20 => (refine' Py.mdef_mk ?aC ?a ?i ?l ?c ?k; (case aC => k_is); (case a => k_is); (case i => k_is); (case l => k_is); (case c => k_is); (case k => k_is))
      case t21 => (refine' Py.mdef_mk ?aC ?a ?i ?l ?c ?k; (case aC => k_is); (case a => k_is); (case i => k_is); (case l => k_is); (case c => k_is); (case k => k_is))
      case t22 => (refine' Py.def_mk ?a ?l ?c ?k; (case a => k_is); (case l => k_is); (case c => k_is); (case k => k_is))
      case t23 => (refine' Py.mdef_mk ?aC ?a ?i ?l ?c ?k; (case aC => k_is); (case a => k_is); (case i => k_is); (case l => k_is); (case c => k_is); (case k => k_is))
      case t24 => (refine' Py.mdef_mk ?aC ?a ?i ?l ?c ?k; (case aC => k_is); (case a => k_is); (case i => k_is); (case l => k_is); (case c => k_is); (case k => k_is))
      case t25 => (refine' Py.def_mk ?a ?l ?c ?k; (case a => k_is); (case l => k_is); (case c => k_is); (case k => k_is))
      case t26 => (refine' Py.def_mk ?a ?l ?c ?k; (case a => k_is); (case l => k_is); (case c => k_is); (case k => k_is))
      case t27 => (refine' Py.def_mk ?a ?l ?c ?k; (case a => k_is); (case l => k_is); (case c => k_is); (case k => k_is))
      case t28 => (refine' Py.def_mk ?a ?l ?c ?k; (case a => k_is); (case l => k_is); (case c => k_is); (case k => k_is))
      case t29 => (refine' Py.def_mk ?a ?l ?c ?k; (case a => k_is); (case l => k_is); (case c => k_is); (case k => k_is))
      case t30 => (refine' Py.def_mk ?a ?l ?c ?k; (case a => k_is); (case l => k_is); (case c => k_is); (case k => k_is))
      case t31 => (refine' Py.def_mk ?a ?l ?c ?k; (case a => k_is); (case l => k_is); (case c => k_is); (case k => k_is))
      case t32 => (refine' Py.def_mk ?a ?l ?c ?k; (case a => k_is); (case l => k_is); (case c => k_is); (case k => k_is))
    case gz =>
      refine' Py.free_mk KX G ?h0 ?h1 ?h2 ?h3 ?h4 ?h5 ?h6 ?h7 ?h8 ?h9 ?h10 ?h11 ?h12 ?h13 ?h14 ?h15 ?h16 ?h17
      (case h0 => k_is); (case h1 => k_is); (case h2 => k_is); (case h3 => k_is); (case h4 => k_is); (case h5 => k_is); (case h6 => k_is); (case h7 => k_is); (case h8 => k_is); (case h9 => k_is); (case h10 => k_is); (case h11 => k_is); (case h12 => k_is); (case h13 => k_is); (case h14 => k_is); (case h15 => k_is); (case h16 => k_is); (case h17 => k_is)
    case gM =>
      refine ⟨?c_FILES, ?c_GREAT, ?c_LETTERS, ?c_LONGEST, ?c_MOMENTS, ?c_PICTURES, ?c_PLACE, ?c_SIDE, ?x_Full, ?x_NoCut, ?x_NoFiles, ?x_NoNumber, ?x_NoPicture, ?hall, ?w_NoPicture, ?w_NoCut, ?w_NoNumber, ?w_NoFiles, ?w_Full, ?hC, ?f_nr, ?f_nb, ?f_np, ?mkH, ?kpH, trivial⟩
      case c_FILES => (refine' Py.int_mk KX G ?a; (case a => k_is))
      case c_GREAT => (refine' Py.int_mk KX G ?a; (case a => k_is))
      case c_LETTERS => (refine' Py.str_mk KX G ?a; (case a => k_is))
      case c_LONGEST => (refine' Py.int_mk KX G ?a; (case a => k_is))
      case c_MOMENTS => (refine' Py.int_mk KX G ?a; (case a => k_is))
      case c_PICTURES => (refine' Py.int_mk KX G ?a; (case a => k_is))
      case c_PLACE => (refine' Py.int_mk KX G ?a; (case a => k_is))
      case c_SIDE => (refine' Py.int_mk KX G ?a; (case a => k_is))
      case x_Full => (refine' Py.exc_mk KX G ?a ?e ?k ?s ?t; (case a => k_is); (case e => k_exc); (case k => k_is); (case s => k_is); (case t => k_is))
      case x_NoCut => (refine' Py.exc_mk KX G ?a ?e ?k ?s ?t; (case a => k_is); (case e => k_exc); (case k => k_is); (case s => k_is); (case t => k_is))
      case x_NoFiles => (refine' Py.exc_mk KX G ?a ?e ?k ?s ?t; (case a => k_is); (case e => k_exc); (case k => k_is); (case s => k_is); (case t => k_is))
      case x_NoNumber => (refine' Py.exc_mk KX G ?a ?e ?k ?s ?t; (case a => k_is); (case e => k_exc); (case k => k_is); (case s => k_is); (case t => k_is))
      case x_NoPicture => (refine' Py.exc_mk KX G ?a ?e ?k ?s ?t; (case a => k_is); (case e => k_exc); (case k => k_is); (case s => k_is); (case t => k_is))
      case hall => (refine' Py.hall_mk KX G ?a; (case a => k_is))
      case w_NoPicture =>
        refine' Py.wrow_mk KX G ?a (Py.excC_mk ?e1 ?e2 ?e3 ?e4 ?e5 ?e6 ?e7 ?e8) ?v ?ah ?hb ?hd ?ht ?hs (Py.kitAt_mk KX G ?n0 ?d0 ?t0 ?k0 ?q0) (Py.kitAt_mk KX G ?n1 ?d1 ?t1 ?k1 ?q1) (Py.kitAt_mk KX G ?n2 ?d2 ?t2 ?k2 ?q2) (Py.kitAt_mk KX G ?n3 ?d3 ?t3 ?k3 ?q3) (Py.kitAt_mk KX G ?n4 ?d4 ?t4 ?k4 ?q4) (Py.kitAt_mk KX G ?n5 ?d5 ?t5 ?k5 ?q5) (Py.kitAt_mk KX G ?n6 ?d6 ?t6 ?k6 ?q6) (Py.kitAt_mk KX G ?n7 ?d7 ?t7 ?k7 ?q7) (Py.kitAt_mk KX G ?n8 ?d8 ?t8 ?k8 ?q8) (Py.kitAt_mk KX G ?n9 ?d9 ?t9 ?k9 ?q9) (Py.kitAt_mk KX G ?n10 ?d10 ?t10 ?k10 ?q10) (Py.kitAt_mk KX G ?n11 ?d11 ?t11 ?k11 ?q11) (Py.kitAt_mk KX G ?n12 ?d12 ?t12 ?k12 ?q12)
        (case a => k_is); (case e1 => k_is); (case e2 => k_is); (case e3 => k_is); (case e4 => k_is); (case e5 => k_is); (case e6 => k_is); (case e7 => k_is); (case e8 => k_is); (case v => k_is); (case ah => k_is); (case hb => k_is); (case hd => k_is); (case ht => k_is); (case hs => k_is); (case n0 => k_is); (case d0 => k_is); (case t0 => k_is); (case k0 => k_is); (case n1 => k_is); (case d1 => k_is); (case t1 => k_is); (case k1 => k_is); (case n2 => k_is); (case d2 => k_is); (case t2 => k_is); (case k2 => k_is); (case n3 => k_is); (case d3 => k_is); (case t3 => k_is); (case k3 => k_is); (case n4 => k_is); (case d4 => k_is); (case t4 => k_is); (case k4 => k_is); (case n5 => k_is); (case d5 => k_is); (case t5 => k_is); (case k5 => k_is); (case n6 => k_is); (case d6 => k_is); (case t6 => k_is); (case k6 => k_is); (case n7 => k_is); (case d7 => k_is); (case t7 => k_is); (case k7 => k_is); (case n8 => k_is); (case d8 => k_is); (case t8 => k_is); (case k8 => k_is); (case n9 => k_is); (case d9 => k_is); (case t9 => k_is); (case k9 => k_is); (case n10 => k_is); (case d10 => k_is); (case t10 => k_is); (case k10 => k_is); (case n11 => k_is); (case d11 => k_is); (case t11 => k_is); (case k11 => k_is); (case n12 => k_is); (case d12 => k_is); (case t12 => k_is); (case k12 => k_is); (case q0 => decide); (case q1 => decide); (case q2 => decide); (case q3 => decide); (case q4 => decide); (case q5 => decide); (case q6 => decide); (case q7 => decide); (case q8 => decide); (case q9 => decide); (case q10 => decide); (case q11 => decide); (case q12 => decide)
      case w_NoCut =>
        refine' Py.wrow_mk KX G ?a (Py.excC_mk ?e1 ?e2 ?e3 ?e4 ?e5 ?e6 ?e7 ?e8) ?v ?ah ?hb ?hd ?ht ?hs (Py.kitAt_mk KX G ?n0 ?d0 ?t0 ?k0 ?q0) (Py.kitAt_mk KX G ?n1 ?d1 ?t1 ?k1 ?q1) (Py.kitAt_mk KX G ?n2 ?d2 ?t2 ?k2 ?q2) (Py.kitAt_mk KX G ?n3 ?d3 ?t3 ?k3 ?q3) (Py.kitAt_mk KX G ?n4 ?d4 ?t4 ?k4 ?q4) (Py.kitAt_mk KX G ?n5 ?d5 ?t5 ?k5 ?q5) (Py.kitAt_mk KX G ?n6 ?d6 ?t6 ?k6 ?q6) (Py.kitAt_mk KX G ?n7 ?d7 ?t7 ?k7 ?q7) (Py.kitAt_mk KX G ?n8 ?d8 ?t8 ?k8 ?q8) (Py.kitAt_mk KX G ?n9 ?d9 ?t9 ?k9 ?q9) (Py.kitAt_mk KX G ?n10 ?d10 ?t10 ?k10 ?q10) (Py.kitAt_mk KX G ?n11 ?d11 ?t11 ?k11 ?q11) (Py.kitAt_mk KX G ?n12 ?d12 ?t12 ?k12 ?q12)
        (case a => k_is); (case e1 => k_is); (case e2 => k_is); (case e3 => k_is); (case e4 => k_is); (case e5 => k_is); (case e6 => k_is); (case e7 => k_is); (case e8 => k_is); (case v => k_is); (case ah => k_is); (case hb => k_is); (case hd => k_is); (case ht => k_is); (case hs => k_is); (case n0 => k_is); (case d0 => k_is); (case t0 => k_is); (case k0 => k_is); (case n1 => k_is); (case d1 => k_is); (case t1 => k_is); (case k1 => k_is); (case n2 => k_is); (case d2 => k_is); (case t2 => k_is); (case k2 => k_is); (case n3 => k_is); (case d3 => k_is); (case t3 => k_is); (case k3 => k_is); (case n4 => k_is); (case d4 => k_is); (case t4 => k_is); (case k4 => k_is); (case n5 => k_is); (case d5 => k_is); (case t5 => k_is); (case k5 => k_is); (case n6 => k_is); (case d6 => k_is); (case t6 => k_is); (case k6 => k_is); (case n7 => k_is); (case d7 => k_is); (case t7 => k_is); (case k7 => k_is); (case n8 => k_is); (case d8 => k_is); (case t8 => k_is); (case k8 => k_is); (case n9 => k_is); (case d9 => k_is); (case t9 => k_is); (case k9 => k_is); (case n10 => k_is); (case d10 => k_is); (case t10 => k_is); (case k10 => k_is); (case n11 => k_is); (case d11 => k_is); (case t11 => k_is); (case k11 => k_is); (case n12 => k_is); (case d12 => k_is); (case t12 => k_is); (case k12 => k_is); (case q0 => decide); (case q1 => decide); (case q2 => decide); (case q3 => decide); (case q4 => decide); (case q5 => decide); (case q6 => decide); (case q7 => decide); (case q8 => decide); (case q9 => decide); (case q10 => decide); (case q11 => decide); (case q12 => decide)
      case w_NoNumber =>
        refine' Py.wrow_mk KX G ?a (Py.excC_mk ?e1 ?e2 ?e3 ?e4 ?e5 ?e6 ?e7 ?e8) ?v ?ah ?hb ?hd ?ht ?hs (Py.kitAt_mk KX G ?n0 ?d0 ?t0 ?k0 ?q0) (Py.kitAt_mk KX G ?n1 ?d1 ?t1 ?k1 ?q1) (Py.kitAt_mk KX G ?n2 ?d2 ?t2 ?k2 ?q2) (Py.kitAt_mk KX G ?n3 ?d3 ?t3 ?k3 ?q3) (Py.kitAt_mk KX G ?n4 ?d4 ?t4 ?k4 ?q4) (Py.kitAt_mk KX G ?n5 ?d5 ?t5 ?k5 ?q5) (Py.kitAt_mk KX G ?n6 ?d6 ?t6 ?k6 ?q6) (Py.kitAt_mk KX G ?n7 ?d7 ?t7 ?k7 ?q7) (Py.kitAt_mk KX G ?n8 ?d8 ?t8 ?k8 ?q8) (Py.kitAt_mk KX G ?n9 ?d9 ?t9 ?k9 ?q9) (Py.kitAt_mk KX G ?n10 ?d10 ?t10 ?k10 ?q10) (Py.kitAt_mk KX G ?n11 ?d11 ?t11 ?k11 ?q11) (Py.kitAt_mk KX G ?n12 ?d12 ?t12 ?k12 ?q12)
        (case a => k_is); (case e1 => k_is); (case e2 => k_is); (case e3 => k_is); (case e4 => k_is); (case e5 => k_is); (case e6 => k_is); (case e7 => k_is); (case e8 => k_is); (case v => k_is); (case ah => k_is); (case hb => k_is); (case hd => k_is); (case ht => k_is); (case hs => k_is); (case n0 => k_is); (case d0 => k_is); (case t0 => k_is); (case k0 => k_is); (case n1 => k_is); (case d1 => k_is); (case t1 => k_is); (case k1 => k_is); (case n2 => k_is); (case d2 => k_is); (case t2 => k_is); (case k2 => k_is); (case n3 => k_is); (case d3 => k_is); (case t3 => k_is); (case k3 => k_is); (case n4 => k_is); (case d4 => k_is); (case t4 => k_is); (case k4 => k_is); (case n5 => k_is); (case d5 => k_is); (case t5 => k_is); (case k5 => k_is); (case n6 => k_is); (case d6 => k_is); (case t6 => k_is); (case k6 => k_is); (case n7 => k_is); (case d7 => k_is); (case t7 => k_is); (case k7 => k_is); (case n8 => k_is); (case d8 => k_is); (case t8 => k_is); (case k8 => k_is); (case n9 => k_is); (case d9 => k_is); (case t9 => k_is); (case k9 => k_is); (case n10 => k_is); (case d10 => k_is); (case t10 => k_is); (case k10 => k_is); (case n11 => k_is); (case d11 => k_is); (case t11 => k_is); (case k11 => k_is); (case n12 => k_is); (case d12 => k_is); (case t12 => k_is); (case k12 => k_is); (case q0 => decide); (case q1 => decide); (case q2 => decide); (case q3 => decide); (case q4 => decide); (case q5 => decide); (case q6 => decide); (case q7 => decide); (case q8 => decide); (case q9 => decide); (case q10 => decide); (case q11 => decide); (case q12 => decide)
      case w_NoFiles =>
        refine' Py.wrow_mk KX G ?a (Py.excC_mk ?e1 ?e2 ?e3 ?e4 ?e5 ?e6 ?e7 ?e8) ?v ?ah ?hb ?hd ?ht ?hs (Py.kitAt_mk KX G ?n0 ?d0 ?t0 ?k0 ?q0) (Py.kitAt_mk KX G ?n1 ?d1 ?t1 ?k1 ?q1) (Py.kitAt_mk KX G ?n2 ?d2 ?t2 ?k2 ?q2) (Py.kitAt_mk KX G ?n3 ?d3 ?t3 ?k3 ?q3) (Py.kitAt_mk KX G ?n4 ?d4 ?t4 ?k4 ?q4) (Py.kitAt_mk KX G ?n5 ?d5 ?t5 ?k5 ?q5) (Py.kitAt_mk KX G ?n6 ?d6 ?t6 ?k6 ?q6) (Py.kitAt_mk KX G ?n7 ?d7 ?t7 ?k7 ?q7) (Py.kitAt_mk KX G ?n8 ?d8 ?t8 ?k8 ?q8) (Py.kitAt_mk KX G ?n9 ?d9 ?t9 ?k9 ?q9) (Py.kitAt_mk KX G ?n10 ?d10 ?t10 ?k10 ?q10) (Py.kitAt_mk KX G ?n11 ?d11 ?t11 ?k11 ?q11) (Py.kitAt_mk KX G ?n12 ?d12 ?t12 ?k12 ?q12)
        (case a => k_is); (case e1 => k_is); (case e2 => k_is); (case e3 => k_is); (case e4 => k_is); (case e5 => k_is); (case e6 => k_is); (case e7 => k_is); (case e8 => k_is); (case v => k_is); (case ah => k_is); (case hb => k_is); (case hd => k_is); (case ht => k_is); (case hs => k_is); (case n0 => k_is); (case d0 => k_is); (case t0 => k_is); (case k0 => k_is); (case n1 => k_is); (case d1 => k_is); (case t1 => k_is); (case k1 => k_is); (case n2 => k_is); (case d2 => k_is); (case t2 => k_is); (case k2 => k_is); (case n3 => k_is); (case d3 => k_is); (case t3 => k_is); (case k3 => k_is); (case n4 => k_is); (case d4 => k_is); (case t4 => k_is); (case k4 => k_is); (case n5 => k_is); (case d5 => k_is); (case t5 => k_is); (case k5 => k_is); (case n6 => k_is); (case d6 => k_is); (case t6 => k_is); (case k6 => k_is); (case n7 => k_is); (case d7 => k_is); (case t7 => k_is); (case k7 => k_is); (case n8 => k_is); (case d8 => k_is); (case t8 => k_is); (case k8 => k_is); (case n9 => k_is); (case d9 => k_is); (case t9 => k_is); (case k9 => k_is); (case n10 => k_is); (case d10 => k_is); (case t10 => k_is); (case k10 => k_is); (case n11 => k_is); (case d11 => k_is); (case t11 => k_is); (case k11 => k_is); (case n12 => k_is); (case d12 => k_is); (case t12 => k_is); (case k12 => k_is); (case q0 => decide); (case q1 => decide); (case q2 => decide); (case q3 => decide); (case q4 => decide); (case q5 => decide); (case q6 => decide); (case q7 => decide); (case q8 => decide); (case q9 => decide); (case q10 => decide); (case q11 => decide); (case q12 => decide)
      case w_Full =>
        refine' Py.wrow_mk KX G ?a (Py.excC_mk ?e1 ?e2 ?e3 ?e4 ?e5 ?e6 ?e7 ?e8) ?v ?ah ?hb ?hd ?ht ?hs (Py.kitAt_mk KX G ?n0 ?d0 ?t0 ?k0 ?q0) (Py.kitAt_mk KX G ?n1 ?d1 ?t1 ?k1 ?q1) (Py.kitAt_mk KX G ?n2 ?d2 ?t2 ?k2 ?q2) (Py.kitAt_mk KX G ?n3 ?d3 ?t3 ?k3 ?q3) (Py.kitAt_mk KX G ?n4 ?d4 ?t4 ?k4 ?q4) (Py.kitAt_mk KX G ?n5 ?d5 ?t5 ?k5 ?q5) (Py.kitAt_mk KX G ?n6 ?d6 ?t6 ?k6 ?q6) (Py.kitAt_mk KX G ?n7 ?d7 ?t7 ?k7 ?q7) (Py.kitAt_mk KX G ?n8 ?d8 ?t8 ?k8 ?q8) (Py.kitAt_mk KX G ?n9 ?d9 ?t9 ?k9 ?q9) (Py.kitAt_mk KX G ?n10 ?d10 ?t10 ?k10 ?q10) (Py.kitAt_mk KX G ?n11 ?d11 ?t11 ?k11 ?q11) (Py.kitAt_mk KX G ?n12 ?d12 ?t12 ?k12 ?q12)
        (case a => k_is); (case e1 => k_is); (case e2 => k_is); (case e3 => k_is); (case e4 => k_is); (case e5 => k_is); (case e6 => k_is); (case e7 => k_is); (case e8 => k_is); (case v => k_is); (case ah => k_is); (case hb => k_is); (case hd => k_is); (case ht => k_is); (case hs => k_is); (case n0 => k_is); (case d0 => k_is); (case t0 => k_is); (case k0 => k_is); (case n1 => k_is); (case d1 => k_is); (case t1 => k_is); (case k1 => k_is); (case n2 => k_is); (case d2 => k_is); (case t2 => k_is); (case k2 => k_is); (case n3 => k_is); (case d3 => k_is); (case t3 => k_is); (case k3 => k_is); (case n4 => k_is); (case d4 => k_is); (case t4 => k_is); (case k4 => k_is); (case n5 => k_is); (case d5 => k_is); (case t5 => k_is); (case k5 => k_is); (case n6 => k_is); (case d6 => k_is); (case t6 => k_is); (case k6 => k_is); (case n7 => k_is); (case d7 => k_is); (case t7 => k_is); (case k7 => k_is); (case n8 => k_is); (case d8 => k_is); (case t8 => k_is); (case k8 => k_is); (case n9 => k_is); (case d9 => k_is); (case t9 => k_is); (case k9 => k_is); (case n10 => k_is); (case d10 => k_is); (case t10 => k_is); (case k10 => k_is); (case n11 => k_is); (case d11 => k_is); (case t11 => k_is); (case k11 => k_is); (case n12 => k_is); (case d12 => k_is); (case t12 => k_is); (case k12 => k_is); (case q0 => decide); (case q1 => decide); (case q2 => decide); (case q3 => decide); (case q4 => decide); (case q5 => decide); (case q6 => decide); (case q7 => decide); (case q8 => decide); (case q9 => decide); (case q10 => decide); (case q11 => decide); (case q12 => decide)
      case hC => (refine' Py.hallC_mk KX G ?aC ?pg ?hd ?po ?sa; (case aC => k_is); (case pg => k_is); (case hd => k_is); (case po => k_is); (case sa => k_is))
      case f_nr => (refine' Py.noA_mk ?aC ?n; (case aC => k_is); (case n => k_is))
      case f_nb => (refine' Py.noA_mk ?aC ?n; (case aC => k_is); (case n => k_is))
      case f_np => (refine' Py.noA_mk ?aC ?n; (case aC => k_is); (case n => k_is))
      case mkH => (refine' Py.mk_mk ?aC ?n; (case aC => k_is); (case n => k_is))
      case kpH => (refine' Py.kp_mk ?aC ?n; (case aC => k_is); (case n => k_is))
