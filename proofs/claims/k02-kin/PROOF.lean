import PyProof.Rows.All
import Wide.All
import OpenK.AllK
import Wide.FinOn
import HandS.ForMost
import HandS.ExcCtx
import HandS.HotCalls
import HandS.CallSlots
import HandS.WordsExc
import HandS.IsInst
import HandS.Deep
import HandS.Flow
import HandS.TupAny
import HandS.TupMul
import KE.KDictKeyed
import KE.KeyNested
import HandS.Walk
import HandS.Conv
import HandS.Style
import HandS.ExcIs
import KE.DataMinMax
import PySem.Challenge.RW_picturehall_k02_whole_kin
set_option Elab.async false
set_option linter.all false
set_option maxRecDepth 100000
set_option maxHeartbeats 1000000
namespace Py
open PySem PySem.Spec PyProof.Rows L2

/-- data of the functional semantics -/
inductive D where
  | non | bl (b : Bool) | int (i : Int) | str (x : Str) | tup (xs : List D) | lst (xs : List D) | fz (xs : List D) | ref (n : Nat) | adr (a : Addr) | ty (n : String)
  deriving Inhabited
/-- mutable objects -/
inductive O where
  | lst (xs : List D)
  | dS (kvs : List (Key × D))
  | dP (kvs : List (NestedKey × D))
  | ins (c : Str) (fs : List (Str × D))
abbrev Sto := List O
abbrev Fr := List (Option D)

/-- where the store's objects stand; what else may be written (a comprehension's list) -/
structure Mp where
  at_ : List Addr
  hid : List Addr
def TupAt (K : PySem.W.Frag) (H : Hp) (a : Addr) (xs : List V) : Prop :=
  H a = some (.tup xs) ∨
    ∃ (o : Obj) (its : Array Value) (n : Nat), K.lookup a = some o ∧ o.cls = .type "tuple" ∧ o.data = .seq its n ∧ its.size ≤ sizeLine ∧ Vals xs its.toList
theorem TupAt.sq {K : PySem.W.Frag} {H : Hp} {a : Addr} {xs : List V} (h : TupAt K H a xs) : SqT K H a xs := by
  rcases h with h | h
  · exact .inl (.inl h)
  · exact .inr h
theorem rd_sq {K : PySem.W.Frag} {H : Hp} {a : Addr} {xs : List V} (h : Rd H a (.lst xs)) : SqL K H a xs := .inl h

/-- a locked list, or one that is written -/
def FzAt (K : PySem.W.Frag) (H : Hp) (m : Mp) (a : Addr) (xs : List V) : Prop := (a ∉ m.at_ ∧ ∃ o, H a = some (.frz o (.lst xs))) ∨
  ∃ (o : Obj) (its : Array Value) (n : Nat), K.lookup a = some o ∧ o.cls = .type "list" ∧ o.dict = none ∧ o.data = .seq its n ∧ its.size ≤ sizeLine ∧ Vals xs its.toList
theorem FzAt.sq {K : PySem.W.Frag} {H : Hp} {m : Mp} {a : Addr} {xs : List V} (h : FzAt K H m a xs) : SqL K H a xs := by
  rcases h with ⟨_, h⟩ | h
  · exact .inl (.inr h)
  · exact .inr h
mutual
def Rep (K : PySem.W.Frag) (H : Hp) (m : Mp) : D → V → Prop
  | .non, v => v = .non
  | .bl b, v => v = .bl b
  | .int i, v => v = .int i
  | .str x, v => v = .str x
  | .tup ds, v => ∃ a vs, v = .ref a ∧ TupAt K H a vs ∧ RepL K H m ds vs
  | .lst ds, v => ∃ a vs, v = .ref a ∧ (a ∉ m.at_ ∧ a ∉ m.hid) ∧ H a = some (.lst vs) ∧ RepL K H m ds vs
  | .fz ds, v => ∃ a vs, v = .ref a ∧ FzAt K H m a vs ∧ RepL K H m ds vs
  | .ref n, v => ∃ a, v = .ref a ∧ m.at_[n]? = some a
  | .adr a, v => v = .ref a
  | .ty n, v => v = .ty n
def RepL (K : PySem.W.Frag) (H : Hp) (m : Mp) : List D → List V → Prop
  | [], vs => vs = []
  | d :: ds, vs => ∃ v r, vs = v :: r ∧ Rep K H m d v ∧ RepL K H m ds r
end

structure Grow (m : Mp) (H : Hp) (m' : Mp) (H' : Hp) : Prop where
  pre : ∃ ex, m'.at_ = m.at_ ++ ex ∧ ∀ a ∈ ex, H a = none
  hid : ∃ hx, m'.hid = hx ++ m.hid ∧ ∀ a ∈ hx, H a = none
  keep : ∀ a o, H a = some o → a ∉ m.at_ → H' a = some o
  tups : ∀ a xs, H a = some (.tup xs) → H' a = some (.tup xs)
  live : ∀ a, H a ≠ none → H' a ≠ none

theorem Grow.refl (m : Mp) (H : Hp) : Grow m H m H := ⟨⟨[], by simp, by simp⟩, ⟨[], by simp, by simp⟩, fun _ _ h _ => h, fun _ _ h => h, fun _ h => h⟩
theorem Grow.trans {m m1 m2 : Mp} {H H1 H2 : Hp} (a : Grow m H m1 H1) (b : Grow m1 H1 m2 H2) : Grow m H m2 H2 := by
  obtain ⟨e1, q1, f1⟩ := a.pre
  obtain ⟨e2, q2, f2⟩ := b.pre
  obtain ⟨x1, y1, z1⟩ := a.hid
  obtain ⟨x2, y2, z2⟩ := b.hid
  have back : ∀ x, H1 x = none → H x = none := fun x hx => by
    cases e : H x with
    | none => rfl
    | some o => exact absurd hx (a.live x (by rw [e]; simp))
  refine ⟨⟨e1 ++ e2, by rw [q2, q1]; simp, fun x hx => ?_⟩, ⟨x2 ++ x1, by rw [y2, y1]; simp, fun x hx => ?_⟩, fun x o h hn => ?_, fun x xs h => b.tups _ _ (a.tups _ _ h), fun x h => b.live _ (a.live _ h)⟩
  · rcases List.mem_append.1 hx with h | h
    · exact f1 x h
    · exact back x (f2 x h)
  · rcases List.mem_append.1 hx with h | h
    · exact back x (z2 x h)
    · exact z1 x h
  · refine b.keep x o (a.keep x o h hn) (fun hm => ?_)
    rw [q1] at hm
    rcases List.mem_append.1 hm with h' | h'
    · exact hn h'
    · rw [f1 x h'] at h; cases h
theorem Grow.new {m : Mp} {H : Hp} {p : Addr} {o : HO} (h : H p = none) : Grow m H m (upd H p o) :=
  ⟨⟨[], by simp, by simp⟩, ⟨[], by simp, by simp⟩, fun a u e _ => by rw [upd_ne (ne_of_none e h)]; exact e, fun a u e => by rw [upd_ne (ne_of_none e h)]; exact e,
    fun a e => by
      by_cases ha : a = p
      · subst ha; rw [upd_same]; simp
      · rw [upd_ne ha]; exact e⟩
theorem Grow.rd {m m' : Mp} {H H' : Hp} (g : Grow m H m' H') {a : Addr} {u : HO} (hn : a ∉ m.at_) (h : Rd H a u) : Rd H' a u := by
  rcases h with h | ⟨o, h⟩
  · exact .inl (g.keep _ _ h hn)
  · exact .inr ⟨o, g.keep _ _ h hn⟩
theorem Grow.notIn {m m' : Mp} {H H' : Hp} (g : Grow m H m' H') {a : Addr} {u : HO} (hn : a ∉ m.at_) (h : Rd H a u) : a ∉ m'.at_ := by
  obtain ⟨ex, q, f⟩ := g.pre
  intro hm
  rw [q] at hm
  rcases List.mem_append.1 hm with h' | h'
  · exact hn h'
  · have := f a h'
    rcases h with h | ⟨o, h⟩ <;> rw [this] at h <;> cases h
theorem Grow.notHid {m m' : Mp} {H H' : Hp} (g : Grow m H m' H') {a : Addr} {u : HO} (hn : a ∉ m.hid) (h : Rd H a u) : a ∉ m'.hid := by
  obtain ⟨ex, q, f⟩ := g.hid
  intro hm
  rw [q] at hm
  rcases List.mem_append.1 hm with h' | h'
  · have := f a h'
    rcases h with h | ⟨o, h⟩ <;> rw [this] at h <;> cases h
  · exact hn h'
theorem Grow.at {m m' : Mp} {H H' : Hp} (g : Grow m H m' H') {n : Nat} {a : Addr} (h : m.at_[n]? = some a) : m'.at_[n]? = some a := by
  obtain ⟨ex, q, f⟩ := g.pre
  rw [q, List.getElem?_append_left]
  · exact h
  · exact (List.getElem?_eq_some_iff.1 h).1
theorem TupAt.mono {K : PySem.W.Frag} {m m' : Mp} {H H' : Hp} (g : Grow m H m' H') {a : Addr} {xs : List V} (h : TupAt K H a xs) : TupAt K H' a xs := by
  rcases h with h | h
  · exact .inl (g.tups _ _ h)
  · exact .inr h
section
variable {K : PySem.W.Frag} {m m' : Mp} {H H' : Hp}
mutual
theorem Rep.mono (g : Grow m H m' H') : ∀ (d : D) (v : V), Rep K H m d v → Rep K H' m' d v
  | .non, v, h => by simpa only [Rep] using h
  | .bl b, v, h => by simpa only [Rep] using h
  | .int i, v, h => by simpa only [Rep] using h
  | .str x, v, h => by simpa only [Rep] using h
  | .tup ds, v, h => by
    simp only [Rep] at h ⊢
    obtain ⟨a, vs, e, t, r⟩ := h
    exact ⟨a, vs, e, t.mono g, RepL.mono g ds vs r⟩
  | .lst ds, v, h => by
    simp only [Rep] at h ⊢
    obtain ⟨a, vs, e, hn, t, r⟩ := h
    exact ⟨a, vs, e, ⟨g.notIn hn.1 (.of t), g.notHid hn.2 (.of t)⟩, g.keep _ _ t hn.1, RepL.mono g ds vs r⟩
  | .fz ds, v, h => by
    simp only [Rep] at h ⊢
    obtain ⟨a, vs, e, t, r⟩ := h
    refine ⟨a, vs, e, ?_, RepL.mono g ds vs r⟩
    rcases t with ⟨hn, o, t⟩ | t
    · exact .inl ⟨g.notIn hn (.of t), o, g.keep _ _ t hn⟩
    · exact .inr t
  | .ref n, v, h => by
    simp only [Rep] at h ⊢
    obtain ⟨a, e, t⟩ := h
    exact ⟨a, e, g.at t⟩
  | .adr a, v, h => by simpa only [Rep] using h
  | .ty n, v, h => by simpa only [Rep] using h
theorem RepL.mono (g : Grow m H m' H') : ∀ (ds : List D) (vs : List V), RepL K H m ds vs → RepL K H' m' ds vs
  | [], vs, h => by simpa only [RepL] using h
  | d :: ds, vs, h => by
    simp only [RepL] at h ⊢
    obtain ⟨v, r, e, h1, h2⟩ := h
    exact ⟨v, r, e, Rep.mono g d v h1, RepL.mono g ds r h2⟩
end
end
theorem RepL.length {K : PySem.W.Frag} {m : Mp} {H : Hp} : ∀ {ds : List D} {vs : List V}, RepL K H m ds vs → vs.length = ds.length
  | [], vs, h => by simp only [RepL] at h; rw [h]; rfl
  | d :: ds, vs, h => by
    simp only [RepL] at h
    obtain ⟨v, r, e, h1, h2⟩ := h
    rw [e, List.length_cons, List.length_cons, RepL.length h2]
theorem RepL.get {K : PySem.W.Frag} {m : Mp} {H : Hp} : ∀ {ds : List D} {vs : List V} {i : Nat} {d : D}, RepL K H m ds vs → ds[i]? = some d → ∃ v, vs[i]? = some v ∧ Rep K H m d v
  | [], vs, i, d, h, hi => by simp at hi
  | d' :: ds, vs, i, d, h, hi => by
    simp only [RepL] at h
    obtain ⟨v, r, e, h1, h2⟩ := h
    subst e
    cases i with
    | zero => simp at hi; subst hi; exact ⟨v, rfl, h1⟩
    | succ i => simp at hi; simpa using RepL.get h2 hi
theorem RepL.getV {K : PySem.W.Frag} {m : Mp} {H : Hp} : ∀ {ds : List D} {vs : List V} {i : Nat} {v : V}, RepL K H m ds vs → vs[i]? = some v → ∃ d, ds[i]? = some d ∧ Rep K H m d v
  | [], vs, i, d, h, hi => by simp only [RepL] at h; subst h; simp at hi
  | d' :: ds, vs, i, v, h, hi => by
    simp only [RepL] at h
    obtain ⟨v', r, e, h1, h2⟩ := h
    subst e
    cases i with
    | zero => simp at hi; subst hi; exact ⟨d', rfl, h1⟩
    | succ i => simp at hi; simpa using RepL.getV h2 hi
theorem RepL.append {K : PySem.W.Frag} {m : Mp} {H : Hp} : ∀ {ds es : List D} {vs us : List V}, RepL K H m ds vs → RepL K H m es us → RepL K H m (ds ++ es) (vs ++ us)
  | [], es, vs, us, h, k => by simp only [RepL] at h; subst h; exact k
  | d :: ds, es, vs, us, h, k => by
    simp only [RepL] at h
    obtain ⟨v, r, e, h1, h2⟩ := h
    subst e
    simp only [List.cons_append, RepL]
    exact ⟨v, r ++ us, rfl, h1, RepL.append h2 k⟩
theorem RepL.nil {K : PySem.W.Frag} {m : Mp} {H : Hp} : RepL K H m [] [] := by simp only [RepL]
theorem RepL.cons {K : PySem.W.Frag} {m : Mp} {H : Hp} {d : D} {ds : List D} {v : V} {vs : List V} (h : Rep K H m d v) (k : RepL K H m ds vs) : RepL K H m (d :: ds) (v :: vs) := by
  simp only [RepL]; exact ⟨v, vs, rfl, h, k⟩
theorem RepL.one {K : PySem.W.Frag} {m : Mp} {H : Hp} {d : D} {v : V} (h : Rep K H m d v) : RepL K H m [d] [v] := .cons h .nil
theorem RepL.uncons {K : PySem.W.Frag} {m : Mp} {H : Hp} {d : D} {ds : List D} {v : V} {vs : List V} (h : RepL K H m (d :: ds) (v :: vs)) : Rep K H m d v ∧ RepL K H m ds vs := by
  simp only [RepL] at h
  obtain ⟨v', r, e, h1, h2⟩ := h
  cases e; exact ⟨h1, h2⟩
theorem RepL.take {K : PySem.W.Frag} {m : Mp} {H : Hp} : ∀ {ds : List D} {vs : List V} (n : Nat), RepL K H m ds vs → RepL K H m (ds.take n) (vs.take n)
  | [], vs, n, h => by simp only [RepL] at h; subst h; simp [RepL]
  | d :: ds, vs, 0, h => by simp [RepL]
  | d :: ds, vs, n + 1, h => by
    simp only [RepL] at h
    obtain ⟨v, r, e, h1, h2⟩ := h
    subst e
    exact .cons h1 (RepL.take n h2)
theorem RepL.drop {K : PySem.W.Frag} {m : Mp} {H : Hp} : ∀ {ds : List D} {vs : List V} (n : Nat), RepL K H m ds vs → RepL K H m (ds.drop n) (vs.drop n)
  | [], vs, n, h => by simp only [RepL] at h; subst h; simp [RepL]
  | d :: ds, vs, 0, h => by simpa using h
  | d :: ds, vs, n + 1, h => by
    simp only [RepL] at h
    obtain ⟨v, r, e, h1, h2⟩ := h
    subst e
    exact RepL.drop n h2
theorem RepL.set {K : PySem.W.Frag} {m : Mp} {H : Hp} {d : D} {v : V} (hr : Rep K H m d v) : ∀ {ds : List D} {vs : List V} (n : Nat), RepL K H m ds vs → RepL K H m (ds.set n d) (vs.set n v)
  | [], vs, n, h => by simp only [RepL] at h; subst h; simp [RepL]
  | d' :: ds, vs, 0, h => by
    simp only [RepL] at h
    obtain ⟨v', r, e, h1, h2⟩ := h
    subst e
    exact .cons hr h2
  | d' :: ds, vs, n + 1, h => by
    simp only [RepL] at h
    obtain ⟨v', r, e, h1, h2⟩ := h
    subst e
    exact .cons h1 (RepL.set hr n h2)
theorem RepL.reverse {K : PySem.W.Frag} {m : Mp} {H : Hp} : ∀ {ds : List D} {vs : List V}, RepL K H m ds vs → RepL K H m ds.reverse vs.reverse
  | [], vs, h => by simp only [RepL] at h; subst h; simp [RepL]
  | d :: ds, vs, h => by
    simp only [RepL] at h
    obtain ⟨v, r, e, h1, h2⟩ := h
    subst e
    rw [List.reverse_cons, List.reverse_cons]
    exact RepL.append (RepL.reverse h2) (.one h1)
/-- flat images -/
theorem RepL.ints {K : PySem.W.Frag} {m : Mp} {H : Hp} : ∀ {ns : List Int} {vs : List V}, RepL K H m (ns.map D.int) vs → vs = ns.map V.int
  | [], vs, h => by simpa [RepL] using h
  | n :: ns, vs, h => by
    simp only [List.map_cons, RepL, Rep] at h
    obtain ⟨v, r, e, h1, h2⟩ := h
    rw [e, h1, RepL.ints h2]; rfl
theorem RepL.strs {K : PySem.W.Frag} {m : Mp} {H : Hp} : ∀ {ns : List Str} {vs : List V}, RepL K H m (ns.map D.str) vs → vs = ns.map V.str
  | [], vs, h => by simpa [RepL] using h
  | n :: ns, vs, h => by
    simp only [List.map_cons, RepL, Rep] at h
    obtain ⟨v, r, e, h1, h2⟩ := h
    rw [e, h1, RepL.strs h2]; rfl
theorem RepL.bls {K : PySem.W.Frag} {m : Mp} {H : Hp} : ∀ {ns : List Bool} {vs : List V}, RepL K H m (ns.map D.bl) vs → vs = ns.map V.bl
  | [], vs, h => by simpa [RepL] using h
  | n :: ns, vs, h => by
    simp only [List.map_cons, RepL, Rep] at h
    obtain ⟨v, r, e, h1, h2⟩ := h
    rw [e, h1, RepL.bls h2]; rfl
theorem RepL.ints' {K : PySem.W.Frag} {m : Mp} {H : Hp} : ∀ (ns : List Int), RepL K H m (ns.map D.int) (ns.map V.int)
  | [] => by simp [RepL]
  | n :: ns => .cons (by simp only [Rep]) (RepL.ints' ns)
theorem RepL.strs' {K : PySem.W.Frag} {m : Mp} {H : Hp} : ∀ (ns : List Str), RepL K H m (ns.map D.str) (ns.map V.str)
  | [] => by simp [RepL]
  | n :: ns => .cons (by simp only [Rep]) (RepL.strs' ns)
theorem RepL.bls' {K : PySem.W.Frag} {m : Mp} {H : Hp} : ∀ (ns : List Bool), RepL K H m (ns.map D.bl) (ns.map V.bl)
  | [] => by simp [RepL]
  | n :: ns => .cons (by simp only [Rep]) (RepL.bls' ns)

/-! ### stores -/
structure W3 where
  P : Program
  w : World
  K : PySem.W.Frag
mutual
def keyOf : D → Option NestedKey
  | .non => some .none
  | .bl b => some (.num (if b then 1 else 0))
  | .int i => some (.num i)
  | .str x => some (.text x)
  | .tup ds => (keysOf ds).map .tup
  | .lst _ => none
  | .fz _ => none
  | .ref _ => none
  | .adr _ => none
  | .ty _ => none
def keysOf : List D → Option (List NestedKey)
  | [] => some []
  | d :: ds => match keyOf d, keysOf ds with
    | some k, some ks => some (k :: ks)
    | _, _ => none
end
/-- the object of a dict whose keys are tuples (of any depth) -/
def DPo (G : W3) (a : Addr) (xs : List (NestedKey × Addr × Value)) : HO := .ext fun h => (a == sysModules) = false ∧ xs.length ≤ sizeLine ∧
  ∃ o es ep, h.get? a = some o ∧ o.ExactDict ∧ o.data = .dict es ep ∧ es.toList = xs.map (entryOfKey (nestedKind G.P G.w)) ∧ (xs.map (·.1)).Nodup
/-- a class of the module by its name -/
def clsAt (K : PySem.W.Frag) (c : Str) : Addr := match PySem.W.nsIn K mainGlobals c with | some (some (.ref C)) => C | _ => 0
def RepO (G : W3) (H : Hp) (m : Mp) (a : Addr) : O → Prop
  | .lst ds => ∃ vs, H a = some (.lst vs) ∧ RepL G.K H m ds vs
  | .dS kvs => ∃ vs, H a = some (.dK ((kvs.map (·.1)).zip vs)) ∧ RepL G.K H m (kvs.map (·.2)) vs
  | .dP kvs => ∃ (xs : List (NestedKey × Addr × Value)) (vs : List V), H a = some (DPo G a xs) ∧ xs.map (·.1) = kvs.map (·.1) ∧ Vals vs (xs.map (·.2.2)) ∧ RepL G.K H m (kvs.map (·.2)) vs ∧
      ∀ x ∈ xs, x.1.depth ≤ 8 ∧ ∃ d, keyOf d = some x.1 ∧ Rep G.K H m d (.ref x.2.1)
  | .ins c fs => ∃ dx vs, H a = some (.ins (clsAt G.K c) dx ((fs.map (·.1)).zip vs)) ∧ RepL G.K H m (fs.map (·.2)) vs
structure Sim (G : W3) (H : Hp) (m : Mp) (S : Sto) : Prop where
  len : m.at_.length = S.length
  nd : m.at_.Nodup
  hid : ∀ a ∈ m.hid, a ∉ m.at_ ∧ H a ≠ none
  at_ : ∀ (n : Nat) a o, m.at_[n]? = some a → S[n]? = some o → RepO G H m a o
structure SimF (K : PySem.W.Frag) (H : Hp) (m : Mp) (σ : L2.St) (fr : Fr) : Prop where
  len : σ.length = fr.length
  at_ : ∀ (i : Nat) d, fr[i]? = some (some d) → ∃ v, σ[i]? = some (some v) ∧ Rep K H m d v
theorem SimF.mono {K : PySem.W.Frag} {m m' : Mp} {H H' : Hp} {σ : L2.St} {fr : Fr} (g : Grow m H m' H') (h : SimF K H m σ fr) : SimF K H' m' σ fr :=
  ⟨h.len, fun i d e => by
    obtain ⟨v, e1, r⟩ := h.at_ i d e
    exact ⟨v, e1, r.mono g⟩⟩
theorem SimF.set {K : PySem.W.Frag} {m : Mp} {H : Hp} {σ : L2.St} {fr : Fr} {d : D} {v : V} (h : SimF K H m σ fr) (i : Nat) (r : Rep K H m d v) : SimF K H m (σ.set i (some v)) (fr.set i (some d)) := by
  refine ⟨by simp [h.len], fun j d' e => ?_⟩
  by_cases hj : j = i
  · subst hj
    rw [List.getElem?_set] at e ⊢
    simp only [if_true] at e ⊢
    split at e
    · rename_i hl
      cases e
      rw [if_pos (by rw [h.len]; exact hl)]
      exact ⟨v, rfl, r⟩
    · cases e
  · rw [List.getElem?_set_ne (Ne.symm hj)] at e ⊢
    exact h.at_ j d' e
theorem SimF.set' {K : PySem.W.Frag} {m : Mp} {H : Hp} {σ : L2.St} {fr : Fr} {o : Option V} (h : SimF K H m σ fr) (i : Nat) : SimF K H m (σ.set i o) (fr.set i none) := by
  refine ⟨by simp [h.len], fun j d' e => ?_⟩
  by_cases hj : j = i
  · subst hj
    rw [List.getElem?_set] at e
    simp only [if_true] at e
    split at e <;> cases e
  · rw [List.getElem?_set_ne (Ne.symm hj)] at e ⊢
    exact h.at_ j d' e
end Py
set_option maxRecDepth 100000
set_option maxHeartbeats 1000000
namespace Py
open PySem PySem.Spec PyProof.Rows L2

inductive Res (α : Type) where
  | ok (a : α) (S : Sto) | exc (c : Str) (S : Sto) | bad
def Res.bind {α β : Type} : Res α → (α → Sto → Res β) → Res β
  | .ok a S, k => k a S
  | .exc c S, _ => .exc c S
  | .bad, _ => .bad
@[simp] theorem Res.bind_ok {α β : Type} (a : α) (S : Sto) (k : α → Sto → Res β) : (Res.ok a S).bind k = k a S := id rfl
@[simp] theorem Res.bind_exc {α β : Type} (c : Str) (S : Sto) (k : α → Sto → Res β) : (Res.exc c S : Res α).bind k = .exc c S := id rfl
@[simp] theorem Res.bind_bad {α β : Type} (k : α → Sto → Res β) : (Res.bad : Res α).bind k = .bad := id rfl
abbrev ME := Fr → Sto → Res D
abbrev MT := Fr → Sto → Res Bool
abbrev MA := Fr → Sto → Res (List D)
inductive RS where
  | nx (fr : Fr) (S : Sto) | ret (d : D) (S : Sto) | brk (fr : Fr) (S : Sto) | cnt (fr : Fr) (S : Sto) | exc (c : Str) (S : Sto) | bad
abbrev MS := Fr → Sto → RS
def Res.then {α : Type} : Res α → (α → Sto → RS) → RS
  | .ok a S, k => k a S
  | .exc c S, _ => .exc c S
  | .bad, _ => .bad
@[simp] theorem Res.then_ok {α : Type} (a : α) (S : Sto) (k : α → Sto → RS) : (Res.ok a S).then k = k a S := id rfl
@[simp] theorem Res.then_exc {α : Type} (c : Str) (S : Sto) (k : α → Sto → RS) : (Res.exc c S : Res α).then k = .exc c S := id rfl
@[simp] theorem Res.then_bad {α : Type} (k : α → Sto → RS) : (Res.bad : Res α).then k = .bad := id rfl

structure At (G : W3) (H : Hp) (m : Mp) (σ : L2.St) (fr : Fr) (S : Sto) : Prop where
  f : SimF G.K H m σ fr
  s : Sim G H m S
/-- what a result asks of the post -/
def POk {α β : Type} (R : Hp → Mp → α → β → Prop) (G : W3) (mg : Str → Option Value) (E : WX) (σ : L2.St) (m : Mp) (H : Hp) (Q : β → Hp → Prop) : Res α → Prop
  | .ok a S' => ∀ m' v H', Grow m H m' H' → Sim G H' m' S' → R H' m' a v → Q v H'
  | .exc c S' => ∀ m' H' C, Grow m H m' H' → Sim G H' m' S' → mg c = some (.ref C) → E (.ref C) none σ H'
  | .bad => False
theorem POk.mono {α β : Type} {R : Hp → Mp → α → β → Prop} {G : W3} {mg : Str → Option Value} {E : WX} {σ : L2.St} {m m1 : Mp} {H H1 : Hp} {Q : β → Hp → Prop} {r : Res α} (g : Grow m H m1 H1) (h : POk R G mg E σ m H Q r) : POk R G mg E σ m1 H1 Q r := by
  cases r with
  | ok a S => exact fun m' v H' g' s' r' => h m' v H' (g.trans g') s' r'
  | exc c S => exact fun m' H' C g' s' e' => h m' H' C (g.trans g') s' e'
  | bad => exact h
theorem POk.imp {α β : Type} {R : Hp → Mp → α → β → Prop} {G : W3} {mg : Str → Option Value} {E : WX} {σ : L2.St} {m : Mp} {H : Hp} {Q Q' : β → Hp → Prop} {r : Res α} (h : POk R G mg E σ m H Q r) (hq : ∀ v H, Q v H → Q' v H) : POk R G mg E σ m H Q' r := by
  cases r with
  | ok a S => exact fun m' v H' g' s' r' => hq _ _ (h m' v H' g' s' r')
  | exc c S => exact h
  | bad => exact h
/-- sequencing -/
theorem POk.bind {α β α' β' : Type} {R : Hp → Mp → α → β → Prop} {R' : Hp → Mp → α' → β' → Prop} {G : W3} {mg : Str → Option Value} {E : WX} {σ : L2.St} {m : Mp} {H : Hp} {Q : β' → Hp → Prop} {Q1 : β → Hp → Prop} {r : Res α} {k : α → Sto → Res α'}
    (h : POk R' G mg E σ m H Q (r.bind k)) (hq : ∀ a S1 m1 v H1, r = .ok a S1 → Grow m H m1 H1 → Sim G H1 m1 S1 → R H1 m1 a v → POk R' G mg E σ m1 H1 Q (k a S1) → Q1 v H1) : POk R G mg E σ m H Q1 r := by
  cases r with
  | ok a S => exact fun m' v H' g' s' r' => hq a S m' v H' rfl g' s' r' (POk.mono (r := k a S) g' h)
  | exc c S => exact h
  | bad => exact h
abbrev RD (G : W3) : Hp → Mp → D → V → Prop := fun H m d v => Rep G.K H m d v
abbrev RDs (G : W3) : Hp → Mp → List D → List V → Prop := fun H m d v => RepL G.K H m d v
abbrev RB : Hp → Mp → Bool → Bool → Prop := fun _ _ b c => c = b
def tE (G : W3) (mg : Str → Option Value) (E : WX) (f : ME) : TE := fun σ H Q => ∃ m fr S, At G H m σ fr S ∧ POk (RD G) G mg E σ m H Q (f fr S)
def tT (G : W3) (mg : Str → Option Value) (E : WX) (f : MT) : TT := fun σ H Q => ∃ m fr S, At G H m σ fr S ∧ POk RB G mg E σ m H Q (f fr S)
def tA (G : W3) (mg : Str → Option Value) (E : WX) (f : MA) : TA := fun σ H Q => ∃ m fr S, At G H m σ fr S ∧ POk (RDs G) G mg E σ m H Q (f fr S)
def PSt (G : W3) (mg : Str → Option Value) (E : WX) (m : Mp) (H : Hp) (Dn : Ends) : RS → Prop
  | .nx fr S' => ∀ m' σ' H', Grow m H m' H' → At G H' m' σ' fr S' → Dn.nx σ' H'
  | .ret d S' => ∀ m' v H', Grow m H m' H' → Sim G H' m' S' → Rep G.K H' m' d v → Dn.rt v H'
  | .brk fr S' => ∀ m' σ' H', Grow m H m' H' → At G H' m' σ' fr S' → Dn.bk σ' H'
  | .cnt fr S' => ∀ m' σ' H', Grow m H m' H' → At G H' m' σ' fr S' → Dn.ct σ' H'
  | .exc c S' => ∀ m' σ' H' C, Grow m H m' H' → Sim G H' m' S' → mg c = some (.ref C) → E (.ref C) none σ' H'
  | .bad => False
theorem PSt.mono {G : W3} {mg : Str → Option Value} {E : WX} {m m1 : Mp} {H H1 : Hp} {Dn : Ends} {r : RS} (g : Grow m H m1 H1) (h : PSt G mg E m H Dn r) : PSt G mg E m1 H1 Dn r := by
  cases r with
  | nx fr S => exact fun m' σ' H' g' s' => h m' σ' H' (g.trans g') s'
  | ret d S => exact fun m' v H' g' s' r' => h m' v H' (g.trans g') s' r'
  | brk fr S => exact fun m' σ' H' g' s' => h m' σ' H' (g.trans g') s'
  | cnt fr S => exact fun m' σ' H' g' s' => h m' σ' H' (g.trans g') s'
  | exc c S => exact fun m' σ' H' C g' s' e' => h m' σ' H' C (g.trans g') s' e'
  | bad => exact h
theorem PSt.then {α β : Type} {R : Hp → Mp → α → β → Prop} {G : W3} {mg : Str → Option Value} {E : WX} {σ : L2.St} {m : Mp} {H : Hp} {Dn : Ends} {Q1 : β → Hp → Prop} {r : Res α} {k : α → Sto → RS}
    (h : PSt G mg E m H Dn (r.then k)) (hq : ∀ a S1 m1 v H1, r = .ok a S1 → Grow m H m1 H1 → Sim G H1 m1 S1 → R H1 m1 a v → PSt G mg E m1 H1 Dn (k a S1) → Q1 v H1) : POk R G mg E σ m H Q1 r := by
  cases r with
  | ok a S => exact fun m' v H' g' s' r' => hq a S m' v H' rfl g' s' r' (PSt.mono (r := k a S) g' h)
  | exc c S => exact fun m' H' C g' s' e' => h m' σ H' C g' s' e'
  | bad => exact h
def tS (G : W3) (mg : Str → Option Value) (E : WX) (f : MS) : TS := fun Dn σ H => ∃ m fr S, At G H m σ fr S ∧ PSt G mg E m H Dn (f fr S)

abbrev g3 (X : Cx) : W3 := ⟨X.prog, X.w, X.K⟩
def SE (X : Cx) (E : WX) (e : Expr) (f : ME) : Prop := PE X e (tE (g3 X) X.mg E f)
def ST (X : Cx) (E : WX) (e : Expr) (f : MT) : Prop := PT X e (tT (g3 X) X.mg E f)
def SA (X : Cx) (E : WX) (es : List Expr) (f : MA) : Prop := PA X es (tA (g3 X) X.mg E f)
def SS (X : Cx) (E : WX) (st : Stmt) (f : MS) : Prop := PS X st (tS (g3 X) X.mg E f)
def SB (X : Cx) (E : WX) (sts : List Stmt) (f : MS) : Prop := PSs X sts (tS (g3 X) X.mg E f)

theorem pe_imp {X : Cx} {e : Expr} {t t' : TE} (h : PE X e t) (w : ∀ σ H Q, t' σ H Q → t σ H Q) : PE X e t' := ⟨fun pins s σ H Q I q => h.run pins s σ H Q I (w σ H Q q)⟩
theorem pt_imp {X : Cx} {e : Expr} {t t' : TT} (h : PT X e t) (w : ∀ σ H Q, t' σ H Q → t σ H Q) : PT X e t' := ⟨fun pins s σ H Q I q => h.run pins s σ H Q I (w σ H Q q)⟩
theorem pw_imp {X : Cx} {e : Expr} {t t' : TT} (h : PW X e t) (w : ∀ σ H Q, t' σ H Q → t σ H Q) : PW X e t' := ⟨fun wh pins s σ H Q I q => h.run wh pins s σ H Q I (w σ H Q q)⟩
theorem pa_imp {X : Cx} {e : List Expr} {t t' : TA} (h : PA X e t) (w : ∀ σ H Q, t' σ H Q → t σ H Q) : PA X e t' := ⟨fun pos pins s σ H Q I q => h.run pos pins s σ H Q I (w σ H Q q)⟩
theorem ps_imp {X : Cx} {e : Stmt} {t t' : TS} (h : PS X e t) (w : ∀ Dn σ H, t' Dn σ H → t Dn σ H) : PS X e t' := ⟨fun pins s σ H Dn I q => h.run pins s σ H Dn I (w Dn σ H q)⟩
theorem pss_imp {X : Cx} {e : List Stmt} {t t' : TS} (h : PSs X e t) (w : ∀ Dn σ H, t' Dn σ H → t Dn σ H) : PSs X e t' := ⟨fun pins s σ H Dn I q => h.run pins s σ H Dn I (w Dn σ H q)⟩

/-! ### names, constants -/
def eVar (i : Nat) : ME := fun fr S => match fr[i]? with | some (some d) => .ok d S | _ => .bad
def eC (d : D) : ME := fun _ S => .ok d S
section
variable {X : Cx} {E : WX}
theorem se_var {x : Str} {pos : Pos} (i : Nat) (hN : X.N[i]? = some x := by rfl) (hv : Vis X.env.scope x := by first | exact Or.inl rfl | exact Or.inr (Or.inl rfl) | exact Or.inr (Or.inr rfl)) (hd : (x == ("__debug__" : Str)) = false := by decide)
    (hcd : (x == ("__classdict__" : Str)) = false := by decide) : SE X E (.Name x pos) (eVar i) := by
  refine pe_imp (pe_var hN hv hd hcd) fun σ H Q h => ?_
  obtain ⟨m, fr, S, at_, h⟩ := h
  unfold eVar at h
  split at h
  · rename_i d e
    obtain ⟨v, e1, r⟩ := at_.f.at_ i d e
    exact ⟨v, e1, h m v H (.refl _ _) at_.s r⟩
  · exact h.elim
theorem se_c {e : Expr} {v : V} {d : D} (h : PE X e (tC v)) (r : ∀ H m, Rep X.K H m d v) : SE X E e (eC d) := by
  refine pe_imp h fun σ H Q h => ?_
  obtain ⟨m, fr, S, at_, h⟩ := h
  exact h m v H (.refl _ _) at_.s (r _ _)
theorem se_int {i : Int} {j pos} : SE X E (.Constant (.int i) j pos) (eC (.int i)) := se_c pe_int fun _ _ => by simp only [Rep]
theorem se_bl {b : Bool} {j pos} : SE X E (.Constant (.bool b) j pos) (eC (.bl b)) := se_c pe_bl fun _ _ => by simp only [Rep]
theorem se_non {j pos} : SE X E (.Constant .none j pos) (eC .non) := se_c pe_non fun _ _ => by simp only [Rep]
theorem se_str {x : Str} {j pos} : SE X E (.Constant (.str x) j pos) (eC (.str x)) := se_c pe_str fun _ _ => by simp only [Rep]
/-- a module's constant -/
theorem se_gint {x : Str} {i : Int} {t : Tok} {pos : Pos} (hg : Gl X x) (hm : X.mg x = some (.int i t)) (hd : (x == ("__debug__" : Str)) = false := by decide) : SE X E (.Name x pos) (eC (.int i)) :=
  se_c (pe_glob hg hm (v := .int i) ⟨t, rfl⟩ hd) fun _ _ => by simp only [Rep]
theorem se_gstr {x : Str} {i : Str} {t : Tok} {pos : Pos} (hg : Gl X x) (hm : X.mg x = some (.str i t)) (hd : (x == ("__debug__" : Str)) = false := by decide) : SE X E (.Name x pos) (eC (.str i)) :=
  se_c (pe_glob hg hm (v := .str i) ⟨t, rfl⟩ hd) fun _ _ => by simp only [Rep]
theorem se_gref {x : Str} {a : Addr} {pos : Pos} (hg : Gl X x) (hm : X.mg x = some (.ref a)) (hd : (x == ("__debug__" : Str)) = false := by decide) : SE X E (.Name x pos) (eC (.adr a)) :=
  se_c (pe_glob hg hm (v := .ref a) rfl hd) fun _ _ => by simp only [Rep]
/-- a module's tuple that stands in the written part -/
theorem se_gtup {x : Str} {a : Addr} {d : D} {pos : Pos} (hg : Gl X x) (hm : X.mg x = some (.ref a)) (hr : ∀ H m, Rep X.K H m d (.ref a)) (hd : (x == ("__debug__" : Str)) = false := by decide) : SE X E (.Name x pos) (eC d) :=
  se_c (pe_glob hg hm (v := .ref a) rfl hd) hr
end

/-! ### operators by values -/
def e1 (op : D → Sto → Res D) (f : ME) : ME := fun fr S => (f fr S).bind op
def e2 (op : D → D → Sto → Res D) (f g : ME) : ME := fun fr S => (f fr S).bind fun x S => (g fr S).bind fun y S => op x y S
def Op1 (G : W3) (mg : Str → Option Value) (r : V → Hp → VK → Prop) (sem : D → Sto → Res D) : Prop :=
  ∀ (E : WX) (σ : L2.St) (m : Mp) (H : Hp) (S : Sto) (x : D) (v : V) (Q : VK), Sim G H m S → Rep G.K H m x v → POk (RD G) G mg E σ m H Q (sem x S) → r v H Q
def Op2 (G : W3) (mg : Str → Option Value) (r : R2) (sem : D → D → Sto → Res D) : Prop :=
  ∀ (E : WX) (σ : L2.St) (m : Mp) (H : Hp) (S : Sto) (x y : D) (v u : V) (Q : VK), Sim G H m S → Rep G.K H m x v → Rep G.K H m y u → POk (RD G) G mg E σ m H Q (sem x y S) → r v u H Q
def OpN (G : W3) (mg : Str → Option Value) (r : List V → Hp → VK → Prop) (sem : List D → Sto → Res D) : Prop :=
  ∀ (E : WX) (σ : L2.St) (m : Mp) (H : Hp) (S : Sto) (xs : List D) (vs : List V) (Q : VK), Sim G H m S → RepL G.K H m xs vs → POk (RD G) G mg E σ m H Q (sem xs S) → r vs H Q
section
variable {X : Cx} {E : WX} {a b : Expr} {f g : ME} {pos : Pos}
theorem un_of {op : D → Sto → Res D} {r : V → Hp → VK → Prop} (h1 : Op1 (g3 X) X.mg r op) {σ : L2.St} {H : Hp} {Q : VK} (h : tE (g3 X) X.mg E (e1 op f) σ H Q) : tUn r (tE (g3 X) X.mg E f) σ H Q := by
  obtain ⟨m, fr, S, at_, h⟩ := h
  refine ⟨m, fr, S, at_, POk.bind h fun x S1 m1 v H1 e g s r p => ?_⟩
  exact h1 E σ m1 H1 S1 x v Q s r p
theorem bin_of {op : D → D → Sto → Res D} {r : R2} (h2 : Op2 (g3 X) X.mg r op) {σ : L2.St} {H : Hp} {Q : VK} (h : tE (g3 X) X.mg E (e2 op f g) σ H Q) : tOp r (tE (g3 X) X.mg E f) (tE (g3 X) X.mg E g) σ H Q := by
  obtain ⟨m, fr, S, at_, h⟩ := h
  refine ⟨m, fr, S, at_, POk.bind h fun x S1 m1 v H1 e g s r p => ?_⟩
  refine ⟨m1, fr, S1, ⟨at_.f.mono g, s⟩, POk.bind p fun y S2 m2 u H2 e2 g2 s2 r2 p2 => ?_⟩
  exact h2 E σ m2 H2 S2 x y v u Q s2 (r.mono g2) r2 p2
theorem se_un {op : UnaryOp} {sem : D → Sto → Res D} {r : V → Hp → VK → Prop} (ho : UnR X (unaryOp op) r) (h1 : Op1 (g3 X) X.mg r sem) (ha : SE X E a f) : SE X E (.UnaryOp op a pos) (e1 sem f) :=
  pe_imp (pe_un ho ha) fun _ _ _ h => un_of h1 h
theorem se_op {op : Operator} {sem : D → D → Sto → Res D} {r : R2} (ho : OpR X (binaryOp op) r) (h2 : Op2 (g3 X) X.mg r sem) (ha : SE X E a f) (hb : SE X E b g) : SE X E (.BinOp a op b pos) (e2 sem f g) :=
  pe_imp (pe_op ho ha hb) fun _ _ _ h => bin_of h2 h
theorem se_cmp {op : CmpOp} {sem : D → D → Sto → Res D} {r : R2} (ho : OpR X (compareOp op) r) (h2 : Op2 (g3 X) X.mg r sem) (ha : SE X E a f) (hb : SE X E b g) (hm : behindInMarks op b = false) : SE X E (.Compare a [op] [b] pos) (e2 sem f g) :=
  pe_imp (pe_cmpR ho ha hb hm) fun _ _ _ h => bin_of h2 h
theorem se_ix {sem : D → D → Sto → Res D} {r : R2} (ho : IxR X r) (h2 : Op2 (g3 X) X.mg r sem) (ha : SE X E a f) (hb : SE X E b g) (hs : PlainIx b) : SE X E (.Subscript a b pos) (e2 sem f g) :=
  pe_imp (pe_ix ho ha hb hs) fun _ _ _ h => bin_of h2 h
/-! tests -/
def tVal (f : ME) : MT := fun fr S => (f fr S).bind fun d S => match d with | .bl b => .ok b S | _ => .bad
theorem val_of {σ : L2.St} {H : Hp} {Q : Bool → Hp → Prop} (h : tT (g3 X) X.mg E (tVal f) σ H Q) : tE (g3 X) X.mg E f σ H fun x H' => ∃ k, x = .bl k ∧ Q k H' := by
  obtain ⟨m, fr, S, at_, h⟩ := h
  refine ⟨m, fr, S, at_, POk.bind h fun x S1 m1 v H1 e g s r p => ?_⟩
  cases x with
  | bl b => simp only [Rep] at r; exact ⟨b, r, p m1 b H1 (.refl _ _) s rfl⟩
  | _ => exact p.elim
theorem st_val (h : SE X E a f) (he : ∀ whole, isTrue a X.env whole = (do let v ← whole; standAt a.pos; holding [v] (truthy v)) := by intro _; rfl) : ST X E a (tVal f) :=
  pt_imp (pt_val h he) fun _ _ _ h => val_of h
theorem st_cmp {op : CmpOp} {sem : D → D → Sto → Res D} {r : R2} (ho : OpR X (compareOp op) r) (h2 : Op2 (g3 X) X.mg r sem) (ha : SE X E a f) (hb : SE X E b g) (hm : behindInMarks op b = false) : ST X E (.Compare a [op] [b] pos) (tVal (e2 sem f g)) :=
  pt_imp (pt_cmpR ho ha hb hm) fun σ H Q h => by
    have h' := val_of h
    exact bin_of (Q := fun x H' => ∃ k, x = .bl k ∧ Q k H') h2 h'
def tAndM (f g : MT) : MT := fun fr S => (f fr S).bind fun b S => if b then g fr S else .ok false S
def tOrM (f g : MT) : MT := fun fr S => (f fr S).bind fun b S => if b then .ok true S else g fr S
def tNotM (f : MT) : MT := fun fr S => (f fr S).bind fun b S => .ok (!b) S
def SW (X : Cx) (E : WX) (e : Expr) (f : MT) : Prop := PW X e (tT (g3 X) X.mg E f)
variable {p q : MT} {rest : List Expr}
theorem sw_and1 (ha : ST X E a p) : SW X E (.BoolOp .And [a] pos) p := pw_and1 ha
theorem sw_or1 (ha : ST X E a p) : SW X E (.BoolOp .Or [a] pos) p := pw_or1 ha
theorem sw_and (ha : ST X E a p) (hb : SW X E (.BoolOp .And (b :: rest) pos) q) : SW X E (.BoolOp .And (a :: b :: rest) pos) (tAndM p q) :=
  pw_imp (pw_and ha hb) fun σ H Q h => by
    obtain ⟨m, fr, S, at_, h⟩ := h
    refine ⟨m, fr, S, at_, POk.bind h fun x S1 m1 v H1 e g s r p => ?_⟩
    subst r
    cases v with
    | true => exact ⟨m1, fr, S1, ⟨at_.f.mono g, s⟩, p⟩
    | false => exact p m1 _ H1 (.refl _ _) s rfl
theorem sw_or (ha : ST X E a p) (hb : SW X E (.BoolOp .Or (b :: rest) pos) q) : SW X E (.BoolOp .Or (a :: b :: rest) pos) (tOrM p q) :=
  pw_imp (pw_or ha hb) fun σ H Q h => by
    obtain ⟨m, fr, S, at_, h⟩ := h
    refine ⟨m, fr, S, at_, POk.bind h fun x S1 m1 v H1 e g s r p => ?_⟩
    subst r
    cases v with
    | false => exact ⟨m1, fr, S1, ⟨at_.f.mono g, s⟩, p⟩
    | true => exact p m1 _ H1 (.refl _ _) s rfl
theorem st_bool (h : SW X E a p) : ST X E a p := PW.pt h
theorem st_not (ha : ST X E a p) : ST X E (.UnaryOp .Not a pos) (tNotM p) :=
  pt_imp (pt_not ha) fun σ H Q h => by
    obtain ⟨m, fr, S, at_, h⟩ := h
    refine ⟨m, fr, S, at_, POk.bind h fun x S1 m1 v H1 e g s r p => ?_⟩
    subst r
    exact p m1 _ H1 (.refl _ _) s rfl
/-! .. as values -/
def eAnd (f g : ME) : ME := fun fr S => (f fr S).bind fun d S => match d with | .bl b => if b then g fr S else .ok (.bl false) S | _ => .bad
def eOr (f g : ME) : ME := fun fr S => (f fr S).bind fun d S => match d with | .bl b => if b then .ok (.bl true) S else g fr S | _ => .bad
def eNot (f : ME) : ME := fun fr S => (f fr S).bind fun d S => match d with | .bl b => .ok (.bl (!b)) S | _ => .bad
theorem se_one {op} (h : SE X E a f) : SE X E (.BoolOp op [a] pos) f := pe_one h
theorem se_and (ha : SE X E a f) (hb : SE X E (.BoolOp .And (b :: rest) pos) g) : SE X E (.BoolOp .And (a :: b :: rest) pos) (eAnd f g) :=
  pe_imp (pe_and ha hb) fun σ H Q h => by
    obtain ⟨m, fr, S, at_, h⟩ := h
    refine ⟨m, fr, S, at_, POk.bind h fun x S1 m1 v H1 e g s r p => ?_⟩
    cases x with
    | bl c =>
      simp only [Rep] at r
      refine ⟨c, r, ?_⟩
      cases c with
      | true => exact ⟨m1, fr, S1, ⟨at_.f.mono g, s⟩, p⟩
      | false => exact p m1 _ H1 (.refl _ _) s (by simp only [RD, Rep])
    | _ => exact p.elim
theorem se_or (ha : SE X E a f) (hb : SE X E (.BoolOp .Or (b :: rest) pos) g) : SE X E (.BoolOp .Or (a :: b :: rest) pos) (eOr f g) :=
  pe_imp (pe_or ha hb) fun σ H Q h => by
    obtain ⟨m, fr, S, at_, h⟩ := h
    refine ⟨m, fr, S, at_, POk.bind h fun x S1 m1 v H1 e g s r p => ?_⟩
    cases x with
    | bl c =>
      simp only [Rep] at r
      refine ⟨c, r, ?_⟩
      cases c with
      | false => exact ⟨m1, fr, S1, ⟨at_.f.mono g, s⟩, p⟩
      | true => exact p m1 _ H1 (.refl _ _) s (by simp only [RD, Rep])
    | _ => exact p.elim
theorem se_not (ha : SE X E a f) : SE X E (.UnaryOp .Not a pos) (eNot f) :=
  pe_imp (pe_not ha) fun σ H Q h => by
    obtain ⟨m, fr, S, at_, h⟩ := h
    refine ⟨m, fr, S, at_, POk.bind h fun x S1 m1 v H1 e g s r p => ?_⟩
    cases x with
    | bl c =>
      simp only [Rep] at r
      exact ⟨c, r, p m1 _ H1 (.refl _ _) s (by simp only [RD, Rep])⟩
    | _ => exact p.elim
/-- a op1 b op2 c -/
def eChain (o1 o2 : D → D → Sto → Res D) (f g h : ME) : ME := fun fr S => (f fr S).bind fun x S => (g fr S).bind fun y S => (o1 x y S).bind fun z S => match z with
  | .bl b => if b then (h fr S).bind fun w S => o2 y w S else .ok (.bl false) S
  | _ => .bad
theorem chain_of {o1 o2 : D → D → Sto → Res D} {r1 r2 : R2} {h : ME} (h1 : Op2 (g3 X) X.mg r1 o1) (h2 : Op2 (g3 X) X.mg r2 o2) {σ : L2.St} {H : Hp} {Q : VK} (q : tE (g3 X) X.mg E (eChain o1 o2 f g h) σ H Q) :
    tChain r1 r2 (tE (g3 X) X.mg E f) (tE (g3 X) X.mg E g) (tE (g3 X) X.mg E h) σ H Q := by
  obtain ⟨m, fr, S, at_, q⟩ := q
  refine ⟨m, fr, S, at_, POk.bind q fun x S1 m1 v H1 e g s r p => ?_⟩
  refine ⟨m1, fr, S1, ⟨at_.f.mono g, s⟩, POk.bind p fun y S2 m2 u H2 e2 g2 s2 rr2 p2 => ?_⟩
  refine h1 E σ m2 H2 S2 x y v u _ s2 (r.mono g2) rr2 (POk.bind p2 fun z S3 m3 w H3 e3 g3' s3 r3 p3 => ?_)
  cases z with
  | bl b =>
    simp only [RD, Rep] at r3
    refine ⟨b, r3, ?_⟩
    cases b with
    | true =>
      refine ⟨m3, fr, S3, ⟨at_.f.mono (g.trans (g2.trans g3')), s3⟩, POk.bind p3 fun w' S4 m4 u' H4 e4 g4 s4 r4 p4 => ?_⟩
      exact h2 E σ m4 H4 S4 y w' u u' Q s4 (rr2.mono (g3'.trans g4)) r4 p4
    | false => exact p3 m3 _ H3 (.refl _ _) s3 (by simp only [RD, Rep])
  | _ => exact p3.elim
theorem se_chain {op op' : CmpOp} {c : Expr} {h : ME} {o1 o2 : D → D → Sto → Res D} {r1 r2 : R2} (ho : OpR X (compareOp op) r1) (ho' : OpR X (compareOp op') r2) (h1 : Op2 (g3 X) X.mg r1 o1) (h2 : Op2 (g3 X) X.mg r2 o2)
    (ha : SE X E a f) (hb : SE X E b g) (hc : SE X E c h) (hm : lastMarks [op, op'] [b, c] = false := by with_unfolding_all rfl) : SE X E (.Compare a [op, op'] [b, c] pos) (eChain o1 o2 f g h) :=
  pe_imp (pe_chain ho ho' ha hb hc hm) fun _ _ _ q => chain_of h1 h2 q
theorem st_chain {op op' : CmpOp} {c : Expr} {h : ME} {o1 o2 : D → D → Sto → Res D} {r1 r2 : R2} (ho : OpR X (compareOp op) r1) (ho' : OpR X (compareOp op') r2) (h1 : Op2 (g3 X) X.mg r1 o1) (h2 : Op2 (g3 X) X.mg r2 o2)
    (ha : SE X E a f) (hb : SE X E b g) (hc : SE X E c h) (hm : lastMarks [op, op'] [b, c] = false := by with_unfolding_all rfl) : ST X E (.Compare a [op, op'] [b, c] pos) (tVal (eChain o1 o2 f g h)) :=
  pt_imp (pt_chain ho ho' ha hb hc hm) fun σ H Q q => by
    have q' := val_of q
    exact chain_of (Q := fun x H' => ∃ k, x = .bl k ∧ Q k H') h1 h2 q'
end
/-! ### argument lists, displays, calls -/
def aNil : MA := fun _ S => .ok [] S
def aCons (f : ME) (g : MA) : MA := fun fr S => (f fr S).bind fun x S => (g fr S).bind fun xs S => .ok (x :: xs) S
/-- sizes -/
abbrev sz : Nat := 1000000
theorem sz_ok {n : Nat} (h : n ≤ sz) : n ≤ sizeLine := by rw [sizeLine_eq]; exact Nat.le_trans h (by decide)
theorem sz_lt {n : Nat} (h : n < sz) : n < sizeLine := by rw [sizeLine_eq]; exact Nat.lt_of_lt_of_le h (by decide)
def eTup (f : MA) : ME := fun fr S => (f fr S).bind fun xs S => if xs.length ≤ sz then .ok (.tup xs) S else .bad
def eLst (f : MA) : ME := fun fr S => (f fr S).bind fun xs S => if xs.length ≤ sz then .ok (.lst xs) S else .bad
/-- a list that will be changed: it goes to the store -/
def eNewL (f : MA) : ME := fun fr S => (f fr S).bind fun xs S => if xs.length ≤ sz then .ok (.ref S.length) (S ++ [.lst xs]) else .bad
def eCall (F : List D → Sto → Res D) (f : MA) : ME := fun fr S => (f fr S).bind F
section
variable {X : Cx} {E : WX} {e : Expr} {es : List Expr} {f : ME} {g : MA} {pos : Pos}
theorem sa_nil : SA X E [] aNil := pa_imp pa_nil fun σ H Q h => by
  obtain ⟨m, fr, S, at_, h⟩ := h
  exact h m _ H (.refl _ _) at_.s (by simp only [RDs, RepL])
theorem sa_cons (ha : SE X E e f) (hr : SA X E es g) (hs : starEach (e :: es) X.env = (false, eval e X.env) :: starEach es X.env := by rfl) : SA X E (e :: es) (aCons f g) :=
  pa_imp (pa_cons ha hr hs) fun σ H Q h => by
    obtain ⟨m, fr, S, at_, h⟩ := h
    refine ⟨m, fr, S, at_, POk.bind h fun x S1 m1 v H1 e g s r p => ?_⟩
    refine ⟨m1, fr, S1, ⟨at_.f.mono g, s⟩, POk.bind p fun y S2 m2 u H2 e2 g2 s2 r2 p2 => ?_⟩
    exact p2 m2 _ H2 (.refl _ _) s2 (.cons (r.mono g2) r2)
theorem Rep.newTup {K : PySem.W.Frag} {H : Hp} {m : Mp} {p : Addr} {xs : List D} {vs : List V} (hp : H p = none) (r : RepL K H m xs vs) : Rep K (upd H p (.tup vs)) m (.tup xs) (.ref p) := by
  simp only [Rep]
  exact ⟨p, vs, rfl, .inl upd_same, RepL.mono (.new hp) _ _ r⟩
theorem RepO.live {G : W3} {H : Hp} {m : Mp} {a : Addr} {o : O} (r : RepO G H m a o) : H a ≠ none := by
  cases o with
  | lst ds => obtain ⟨vs, e, _⟩ := r; rw [e]; simp
  | dS ds => obtain ⟨vs, e, _⟩ := r; rw [e]; simp
  | dP ds => obtain ⟨xs, vs, e, _⟩ := r; rw [e]; simp
  | ins C ds => obtain ⟨dx, vs, e, _⟩ := r; rw [e]; simp
theorem Sim.mem {G : W3} {H : Hp} {m : Mp} {S : Sto} (s : Sim G H m S) {p : Addr} (hm : p ∈ m.at_) : ∃ (n : Nat) (o : O), m.at_[n]? = some p ∧ S[n]? = some o ∧ RepO G H m p o := by
  obtain ⟨n, hn, e⟩ := List.mem_iff_getElem.1 hm
  have hS : n < S.length := s.len ▸ hn
  have h1 : m.at_[n]? = some p := by rw [List.getElem?_eq_getElem hn, e]
  exact ⟨n, S[n], h1, List.getElem?_eq_getElem hS, s.at_ n p S[n] h1 (List.getElem?_eq_getElem hS)⟩
theorem Sim.notm {G : W3} {H : Hp} {m : Mp} {S : Sto} (s : Sim G H m S) {p : Addr} (hp : H p = none) : p ∉ m.at_ ∧ p ∉ m.hid := by
  refine ⟨fun hm => ?_, fun hm => (s.hid p hm).2 hp⟩
  obtain ⟨n, o, _, _, r⟩ := s.mem hm
  exact r.live hp
theorem Rep.newLst {G : W3} {H : Hp} {m : Mp} {S : Sto} {p : Addr} {xs : List D} {vs : List V} (s : Sim G H m S) (hp : H p = none) (r : RepL G.K H m xs vs) : Rep G.K (upd H p (.lst vs)) m (.lst xs) (.ref p) := by
  simp only [Rep]
  exact ⟨p, vs, rfl, s.notm hp, upd_same, RepL.mono (.new hp) _ _ r⟩
/-- the store behind a growing of the heap that leaves the store's objects -/
theorem RepO.mono {G : W3} {H H' : Hp} {m m' : Mp} {a : Addr} {o : O} (g : Grow m H m' H') (hk : ∀ u, H a = some u → H' a = some u) (r : RepO G H m a o) : RepO G H' m' a o := by
  cases o with
  | lst ds => obtain ⟨vs, e, r⟩ := r; exact ⟨vs, hk _ e, r.mono g⟩
  | dS ds => obtain ⟨vs, e, r⟩ := r; exact ⟨vs, hk _ e, r.mono g⟩
  | dP ds =>
    obtain ⟨xs, vs, e, k1, k2, r, k3⟩ := r
    refine ⟨xs, vs, hk _ e, k1, k2, r.mono g, fun x hx => ?_⟩
    obtain ⟨hd, d, h1, h2⟩ := k3 x hx
    exact ⟨hd, d, h1, h2.mono g⟩
  | ins C ds => obtain ⟨dx, vs, e, r⟩ := r; exact ⟨dx, vs, hk _ e, r.mono g⟩
theorem Sim.new {G : W3} {H : Hp} {m : Mp} {S : Sto} (s : Sim G H m S) {p : Addr} {o : HO} (hp : H p = none) : Sim G (upd H p o) m S :=
  ⟨s.len, s.nd, fun a ha => ⟨(s.hid a ha).1, (Grow.new (m := m) hp).live a (s.hid a ha).2⟩, fun n a o' h1 h2 => RepO.mono (.new hp) (fun u e => by rw [upd_ne (ne_of_none e hp)]; exact e) (s.at_ n a o' h1 h2)⟩
/-- a new object goes to the store -/
abbrev Mp.add (m : Mp) (p : Addr) : Mp := ⟨m.at_ ++ [p], m.hid⟩
theorem Grow.alloc {m : Mp} {H : Hp} {p : Addr} {o : HO} (h : H p = none) : Grow m H (m.add p) (upd H p o) :=
  ⟨⟨[p], rfl, fun a ha => by rw [List.mem_singleton] at ha; rw [ha]; exact h⟩, ⟨[], by simp, by simp⟩, (Grow.new (m := m) h).keep, (Grow.new (m := m) h).tups, (Grow.new (m := m) h).live⟩
theorem Sim.alloc {G : W3} {H : Hp} {m : Mp} {S : Sto} (s : Sim G H m S) {p : Addr} {u : HO} {o : O} (hp : H p = none) (hr : RepO G (upd H p u) (m.add p) p o) : Sim G (upd H p u) (m.add p) (S ++ [o]) := by
  refine ⟨by simp [s.len], ?_, fun a ha => ⟨fun hm => ?_, (Grow.new (m := m) hp).live a (s.hid a ha).2⟩, fun n a o' h1 h2 => ?_⟩
  · show (m.at_ ++ [p]).Nodup
    rw [List.nodup_append]
    exact ⟨s.nd, by simp, fun a ha b hb => by rw [List.mem_singleton] at hb; subst hb; exact fun e => (s.notm hp).1 (e ▸ ha)⟩
  · rcases List.mem_append.1 hm with h | h
    · exact (s.hid a ha).1 h
    · rw [List.mem_singleton] at h; subst h; exact (s.hid a ha).2 hp
  · by_cases hn : n < m.at_.length
    · rw [show (m.add p).at_ = m.at_ ++ [p] from rfl, List.getElem?_append_left hn] at h1
      rw [List.getElem?_append_left (s.len ▸ hn)] at h2
      exact RepO.mono (.alloc hp) (fun u e => by rw [upd_ne (ne_of_none e hp)]; exact e) (s.at_ n a o' h1 h2)
    · rw [show (m.add p).at_ = m.at_ ++ [p] from rfl, List.getElem?_append_right (by omega)] at h1
      have hn' : n = m.at_.length := by
        have := (List.getElem?_eq_some_iff.1 h1).1
        simp at this; omega
      subst hn'
      rw [List.getElem?_append_right (by rw [s.len]; omega)] at h2
      simp at h1
      rw [show m.at_.length - S.length = 0 by rw [s.len]; omega] at h2
      simp at h2
      subst h1; subst h2
      exact hr
theorem se_tup {x1} (h : SA X E es g) : SE X E (.Tuple es x1 pos) (eTup g) :=
  pe_imp (pe_tup h) fun σ H Q h => by
    obtain ⟨m, fr, S, at_, h⟩ := h
    refine ⟨m, fr, S, at_, POk.bind h fun x S1 m1 v H1 e g s r p => ?_⟩
    split at p
    · rename_i hl
      exact ⟨by rw [r.length]; exact sz_ok hl, fun q hq => p m1 _ _ (.new hq) (s.new hq) (.newTup hq r)⟩
    · exact p.elim
theorem se_lst (h : SA X E es g) : SE X E (.List es pos) (eLst g) :=
  pe_imp (pe_lst h) fun σ H Q h => by
    obtain ⟨m, fr, S, at_, h⟩ := h
    refine ⟨m, fr, S, at_, POk.bind h fun x S1 m1 v H1 e g s r p => ?_⟩
    split at p
    · rename_i hl
      exact ⟨by rw [r.length]; exact sz_ok hl, fun q hq => p m1 _ _ (.new hq) (s.new hq) (.newLst s hq r)⟩
    · exact p.elim
theorem se_newL (h : SA X E es g) : SE X E (.List es pos) (eNewL g) :=
  pe_imp (pe_lst h) fun σ H Q h => by
    obtain ⟨m, fr, S, at_, h⟩ := h
    refine ⟨m, fr, S, at_, POk.bind h fun x S1 m1 v H1 e g s r p => ?_⟩
    split at p
    · rename_i hl
      refine ⟨by rw [r.length]; exact sz_ok hl, fun q hq => p (m1.add q) _ _ (.alloc hq) (s.alloc hq ⟨v, upd_same, r.mono (.alloc hq)⟩) ?_⟩
      simp only [RD, Rep]
      exact ⟨q, rfl, by show (m1.at_ ++ [q])[S1.length]? = some q; rw [List.getElem?_append_right (by rw [s.len]; omega)]; simp [s.len]⟩
    · exact p.elim
/-! calls of built-ins -/
theorem callB_of {r : List V → Hp → VK → Prop} {F : List D → Sto → Res D} (hN : OpN (g3 X) X.mg r F) {σ : L2.St} {H : Hp} {Q : VK} (h : tE (g3 X) X.mg E (eCall F g) σ H Q) : tCB r (tA (g3 X) X.mg E g) σ H Q := by
  obtain ⟨m, fr, S, at_, h⟩ := h
  refine ⟨m, fr, S, at_, POk.bind h fun x S1 m1 v H1 e g s r p => ?_⟩
  exact hN E σ m1 H1 S1 x v Q s r p
theorem se_callB {x : Str} {p : Pos} {id : String} {r : List V → Hp → VK → Prop} {F : List D → Sto → Res D} (hc : CallR X (.builtin id) r) (hN : OpN (g3 X) X.mg r F) (hg : Gl X x) (hm : X.mg x = none) (hv : bootBuiltins x = some (.builtin id)) (ha : SA X E (e :: es) g)
    (hn : x ≠ "__name__" := by decide) (hdb : (x == ("__debug__" : Str)) = false := by decide)
    (he : starEach (e :: es) X.env = (false, eval e X.env) :: starEach es X.env := by rfl) (hpl : (backTo pos (starEach es X.env)).any (·.1) = false := by rfl) : SE X E (.Call (.Name x p) (e :: es) [] pos) (eCall F g) :=
  pe_imp (pe_callB hc hg hm hv ha hn hdb he hpl) fun _ _ _ h => callB_of hN h
theorem se_callTy {x : Str} {p : Pos} {T : String} {r : List V → Hp → VK → Prop} {F : List D → Sto → Res D} (hc : CallR X (.type T) r) (hN : OpN (g3 X) X.mg r F) (hg : Gl X x) (hm : X.mg x = none) (hv : bootBuiltins x = some (.type T)) (ha : SA X E (e :: es) g)
    (hn : x ≠ "__name__" := by decide) (hdb : (x == ("__debug__" : Str)) = false := by decide)
    (he : starEach (e :: es) X.env = (false, eval e X.env) :: starEach es X.env := by rfl) (hpl : (backTo pos (starEach es X.env)).any (·.1) = false := by rfl) : SE X E (.Call (.Name x p) (e :: es) [] pos) (eCall F g) :=
  pe_imp (pe_callTy hc hg hm hv ha hn hdb he hpl) fun _ _ _ h => callB_of hN h
/-! calls of defs -/
/-- a def's promise by its function -/
def spF (G : W3) (mg : Str → Option Value) (n : Nat) (F : List D → Sto → Res D) : Sp := fun vs H Q E => vs.length = n ∧ ∃ m S ds, Sim G H m S ∧ RepL G.K H m ds vs ∧ POk (RD G) G mg (fun c d _ H => E c d H) [] m H Q (F ds S)
theorem POk.sigma {α β : Type} {R : Hp → Mp → α → β → Prop} {G : W3} {mg : Str → Option Value} {E : WX} {E' : XK} {σ σ' : L2.St} {m : Mp} {H : Hp} {Q : β → Hp → Prop} {r : Res α} (h : POk R G mg E σ m H Q r) (hE : ∀ c d H, E c d σ H → E' c d H) :
    POk R G mg (fun c d _ H => E' c d H) σ' m H Q r := by
  cases r with
  | ok a S => exact h
  | exc c S => exact fun m' H' C g s e => hE _ _ _ (h m' H' C g s e)
  | bad => exact h
theorem call_of {F : List D → Sto → Res D} {n : Nat} (hn : ∀ ds S, F ds S ≠ .bad → ds.length = n) {σ : L2.St} {H : Hp} {Q : VK} (h : tE (g3 X) X.mg E (eCall F g) σ H Q) : tCallS (spF (g3 X) X.mg n F) (WE E) (tA (g3 X) X.mg E g) σ H Q := by
  obtain ⟨m, fr, S, at_, h⟩ := h
  refine ⟨m, fr, S, at_, POk.bind h fun x S1 m1 v H1 e g s r p => ?_⟩
  refine ⟨?_, m1, S1, x, s, r, p.sigma fun c d H h => h⟩
  rw [r.length]
  refine hn x S1 fun hb => ?_
  rw [hb] at p
  exact p
theorem se_call {x : Str} {p : Pos} {k n : Nat} {fa : Addr} {fd : FuncData} {ps : List Str} {F : List D → Sto → Res D} (hF : FnOk X.prog X.w X.K X.mg X.base (L2N.CX X.prog X.w) k fa fd ps (spF (g3 X) X.mg n F)) (hn : ∀ ds S, F ds S ≠ .bad → ds.length = n)
    (hr : Room k X.A) (hg : Gl X x) (hm : X.mg x = some (.ref fa)) (hk : PySem.W.keepIn X.K (.ref fa) = true) (hb : Binds X.K fd ps []) (tk : L2N.Takes X E) (ha : SA X E (e :: es) g)
    (hdb : (x == ("__debug__" : Str)) = false := by decide) (he : starEach (e :: es) X.env = (false, eval e X.env) :: starEach es X.env := by rfl) (hpl : (backTo pos (starEach es X.env)).any (·.1) = false := by rfl) :
    SE X E (.Call (.Name x p) (e :: es) [] pos) (eCall F g) :=
  pe_imp (pe_callS hF hr hg hm hk hb (fun σ => L2N.passAt tk σ) ha hdb he hpl) fun _ _ _ h => call_of hn h
end
/-! ### statements -/
def sNil : MS := fun fr S => .nx fr S
def sSeq (f g : MS) : MS := fun fr S => match f fr S with
  | .nx fr S => g fr S
  | r => r
def sSet (i : Nat) (f : ME) : MS := fun fr S => (f fr S).then fun d S => .nx (fr.set i (some d)) S
def sRet (f : ME) : MS := fun fr S => (f fr S).then fun d S => .ret d S
def sRetN : MS := fun _ S => .ret .non S
def sExpr (f : ME) : MS := fun fr S => (f fr S).then fun _ S => .nx fr S
def sIf (c : MT) (f g : MS) : MS := fun fr S => (c fr S).then fun b S => if b then f fr S else g fr S
def sRaise (c : Str) : MS := fun _ S => .exc c S
section
variable {X : Cx} {E : WX} {st : Stmt} {rest : List Stmt} {e : Expr} {f : ME} {s t : MS} {pos : Pos}
theorem sb_nil : SB X E [] sNil := pss_imp pss_nil fun Dn σ H h => by
  obtain ⟨m, fr, S, at_, h⟩ := h
  exact h m σ H (.refl _ _) at_
theorem sb_cons (h1 : SS X E st s) (h2 : SB X E rest t) : SB X E (st :: rest) (sSeq s t) := pss_imp (pss_cons h1 h2) fun Dn σ H h => by
  obtain ⟨m, fr, S, at_, h⟩ := h
  refine ⟨m, fr, S, at_, ?_⟩
  unfold sSeq at h
  cases e : s fr S with
  | nx fr' S' => rw [e] at h; exact fun m' σ' H' g a => ⟨m', fr', S', a, h.mono g⟩
  | ret d S' => rw [e] at h; exact h
  | brk fr' S' => rw [e] at h; exact h
  | cnt fr' S' => rw [e] at h; exact h
  | exc c S' => rw [e] at h; exact h
  | bad => rw [e] at h; exact h
theorem sb_one (h1 : SS X E st s) : SB X E [st] s := pss_one h1
theorem ss_set {i : Nat} {x : Str} {pos' : Pos} (hN : X.N.Nodup) (hi : X.N[i]? = some x) (hx : Loc X.env.scope x) (he : SE X E e f) (hs : swapsWith e (some (.Name x pos')) pos.line X.env = pure false := by rfl) (hf : X.fn x = true ∨ X.env.scope.names.lookup x = some .local := by first | exact .inl rfl | exact .inr rfl | assumption) :
    SS X E (.Assign [.Name x pos'] e pos) (sSet i f) := ps_imp (ps_set hN hi hx he hs hf) fun Dn σ H h => by
  obtain ⟨m, fr, S, at_, h⟩ := h
  refine ⟨m, fr, S, at_, PSt.then h fun x S1 m1 v H1 e g s r p => ?_⟩
  exact p m1 _ H1 (.refl _ _) ⟨(at_.f.mono g).set i r, s⟩
theorem ss_ret (he : SE X E e f) : SS X E (.Return (some e) pos) (sRet f) := ps_imp (ps_ret he) fun Dn σ H h => by
  obtain ⟨m, fr, S, at_, h⟩ := h
  refine ⟨m, fr, S, at_, PSt.then h fun x S1 m1 v H1 e g s r p => ?_⟩
  exact p m1 _ H1 (.refl _ _) s r
theorem ss_retN : SS X E (.Return none pos) sRetN := ps_imp ps_retN fun Dn σ H h => by
  obtain ⟨m, fr, S, at_, h⟩ := h
  exact h m _ H (.refl _ _) at_.s (by simp only [Rep])
theorem ss_expr (he : SE X E e f) (hs : swapsWith e none pos.line X.env = pure false := by rfl) : SS X E (.Expr e pos) (sExpr f) := ps_imp (ps_expr he hs) fun Dn σ H h => by
  obtain ⟨m, fr, S, at_, h⟩ := h
  refine ⟨m, fr, S, at_, PSt.then h fun x S1 m1 v H1 e g s r p => ?_⟩
  exact p m1 _ H1 (.refl _ _) ⟨at_.f.mono g, s⟩
theorem ss_if {c : Expr} {a b : List Stmt} {p : MT} (hc : ST X E c p) (ha : SB X E a s) (hb : SB X E b t) : SS X E (.If c a b pos) (sIf p s t) := ps_imp (ps_if hc ha hb) fun Dn σ H h => by
  obtain ⟨m, fr, S, at_, h⟩ := h
  refine ⟨m, fr, S, at_, PSt.then h fun x S1 m1 v H1 e g s r p => ?_⟩
  subst r
  cases v with
  | true => exact ⟨m1, fr, S1, ⟨at_.f.mono g, s⟩, p⟩
  | false => exact ⟨m1, fr, S1, ⟨at_.f.mono g, s⟩, p⟩
/-- raise C('..') -/
theorem ss_raise {C : Addr} {bmB : List Value} {B newId initId : String} {x m : Str} {j : Nat} {p p2 pos' : Pos} (hc : X.calm = true) (tk : L2N.Takes X E) (F : ExcBaseFacts B newId initId bmB) (q : PySem.W.excIn X.K C bmB newId = true) (gC : X.mg x = some (.ref C))
    (kC : PySem.W.keepIn X.K (.ref C) = true) (r : Raises X (.ref C)) (hg : Gl X x) (hdb : (x == ("__debug__" : Str)) = false := by decide) :
    SS X E (.Raise (some (.Call (.Name x p) [.Constant (.str m) j p2] [] pos')) none pos) (sRaise x) :=
  ps_imp (L2N.ps_raise hc tk (L2N.pmk_own F q gC kC r hg hdb)) fun Dn σ H h => by
    obtain ⟨m, fr, S, at_, h⟩ := h
    exact h m σ H C (.refl _ _) at_.s gC
end
/-! ### a def -/
def startF (n : Nat) (ds : List D) : Fr := ds.map some ++ List.replicate (n - ds.length) none
def bodyRes : RS → Res D
  | .nx _ S => .ok .non S
  | .ret d S => .ok d S
  | .exc c S => .exc c S
  | _ => .bad
theorem RepL.start {K : PySem.W.Frag} {H : Hp} {m : Mp} {ds : List D} {vs : List V} {N : List Str} (r : RepL K H m ds vs) : SimF K H m (L2.start N vs) (startF N.length ds) := by
  have hl := r.length
  refine ⟨by simp [L2.start, startF, hl], fun i d e => ?_⟩
  unfold startF at e
  unfold L2.start
  by_cases hi : i < ds.length
  · rw [List.getElem?_append_left (by simpa using hi), List.getElem?_map] at e
    cases e' : ds[i]? with
    | none => rw [e'] at e; cases e
    | some d' =>
      rw [e'] at e
      simp at e
      subst e
      obtain ⟨v, h1, h2⟩ := r.get e'
      refine ⟨v, ?_, h2⟩
      rw [List.getElem?_append_left (by rw [List.length_map, hl]; exact hi), List.getElem?_map, h1]
      rfl
  · rw [List.getElem?_append_right (by simpa using Nat.le_of_not_lt hi), List.getElem?_replicate] at e
    split at e <;> cases e
/-- the context of a def's body -/
abbrev cxN (P : Program) (w : World) (K : PySem.W.Frag) (mg : Str → Option Value) (base : Heap) (N : List Str) (qual : Str) (st : Stmt) (f : Addr) (cdv : Value) (A : Around) (outer : List Env) (s : Shared) (H : Hp) (E : XK) : Cx :=
  cxOf (L2N.CX P w) P w K mg base N qual (defScope st) f cdv A outer s H E
abbrev EN (E : XK) : WX := fun cls d _ H => E cls d H
/-- THE RULE for a def -/
theorem fn_sound {P : Program} {w : World} {K : PySem.W.Frag} {mg : Str → Option Value} {base : Heap} {x qual : Str} {st : Stmt} {f : Addr} {fd : FuncData} {N ps : List Str} {k : Nat} {F : List D → Sto → Res D} {b : MS}
    (Fn : Fun K x qual st f fd) (Sc : FnScope N ps (defScope st))
    (hb : ∀ (cdv : Value) (A : Around) (outer : List Env) (s : Shared) (H : Hp) (E : XK), Room k (cxN P w K mg base N qual st f cdv A outer s H E).A → L2N.Takes (cxN P w K mg base N qual st f cdv A outer s H E) (EN E) →
      PassesOwn (model P w) (cxN P w K mg base N qual st f cdv A outer s H E).A (cxN P w K mg base N qual st f cdv A outer s H E).env (cxN P w K mg base N qual st f cdv A outer s H E).xe →
      SB (cxN P w K mg base N qual st f cdv A outer s H E) (EN E) (defBody st) b)
    (hF : ∀ ds S, F ds S ≠ .bad → ds.length = ps.length ∧ bodyRes (b (startF N.length ds) S) = F ds S) :
    FnOk P w K mg base (L2N.CX P w) (k + 1) f fd ps (spF ⟨P, w, K⟩ mg ps.length F) := by
  obtain ⟨oc, od, kV, doc, pm, an, cdv, ct, osl, rfl, lk, hcd⟩ := Fn.ex
  refine fn_of lk hcd Sc (fun vs H Q E h => h.1) (fun A outer s H vs Q E hr h => ?_)
  obtain ⟨hl, m, S, ds, sim, rep, h⟩ := h
  refine ⟨_, hb cdv A outer s H E hr (L2N.takes_of rfl rfl rfl rfl) (passes_of rfl), ?_⟩
  have hnb : F ds S ≠ .bad := fun e => by rw [e] at h; exact h
  obtain ⟨_, e⟩ := hF ds S hnb
  rw [← e] at h
  refine ⟨m, startF N.length ds, S, ⟨rep.start, sim⟩, ?_⟩
  cases e2 : b (startF N.length ds) S with
  | nx fr S' => rw [e2] at h; exact fun m' σ' H' g a => h m' .non H' g a.s (by simp only [RD, Rep])
  | ret d S' => rw [e2] at h; exact fun m' v H' g s r => h m' v H' g s r
  | brk fr S' => rw [e2] at h; exact h.elim
  | cnt fr S' => rw [e2] at h; exact h.elim
  | exc c S' => rw [e2] at h; exact fun m' σ' H' C g s e => h m' H' C g s e
  | bad => rw [e2] at h; exact h.elim
end Py
set_option maxRecDepth 100000
set_option maxHeartbeats 1000000
namespace Py
open PySem PySem.Spec PyProof.Rows L2

/-! ### targets -/
abbrev MG := D → Fr → Option Fr
abbrev MGs := List D → Fr → Option Fr
def tG (G : W3) (sl : List Nat) (g : MG) : TG := fun v σ H Q => ∃ m fr d fr', SimF G.K H m σ fr ∧ Rep G.K H m d v ∧ g d fr = some fr' ∧
  ∀ σ', SimF G.K H m σ' fr' → σ'.length = σ.length → (∀ i, i ∉ sl → σ'[i]? = σ[i]?) → Q σ' H
def tGs (G : W3) (sl : List Nat) (g : MGs) : TGs := fun vs σ H Q => ∃ m fr ds fr', SimF G.K H m σ fr ∧ RepL G.K H m ds vs ∧ g ds fr = some fr' ∧
  ∀ σ', SimF G.K H m σ' fr' → σ'.length = σ.length → (∀ i, i ∉ sl → σ'[i]? = σ[i]?) → Q σ' H
def SG (X : Cx) (sl : List Nat) (tg : Expr) (g : MG) : Prop := PG X tg (tG (g3 X) sl g)
def SGs (X : Cx) (sl : List Nat) (tgs : List Expr) (g : MGs) : Prop := PGs X tgs (tGs (g3 X) sl g)
def gN (i : Nat) : MG := fun d fr => some (fr.set i (some d))
def gs0 : MGs := fun ds fr => match ds with | [] => some fr | _ => none
def gsC (g : MG) (gs : MGs) : MGs := fun ds fr => match ds with | d :: r => (match g d fr with | some fr' => gs r fr' | none => none) | [] => none
def gT (n : Nat) (gs : MGs) : MG := fun d fr => match d with | .tup ds => if ds.length = n then gs ds fr else none | _ => none
theorem pg_imp {X : Cx} {tg : Expr} {t t' : TG} (h : PG X tg t) (w : ∀ v σ H Q, t' v σ H Q → t v σ H Q) : PG X tg t' := ⟨fun pins s σ H v u Q I r q => h.run pins s σ H v u Q I r (w v σ H Q q)⟩
theorem pgs_imp {X : Cx} {tg : List Expr} {t t' : TGs} (h : PGs X tg t) (w : ∀ v σ H Q, t' v σ H Q → t v σ H Q) : PGs X tg t' := ⟨fun pins s σ H v u Q I r q => h.run pins s σ H v u Q I r (w v σ H Q q)⟩
section
variable {X : Cx} {pos : Pos}
theorem sg_name {i : Nat} {x : Str} (hN : X.N.Nodup) (hi : X.N[i]? = some x) (hx : Loc X.env.scope x) (hf : X.fn x = true ∨ X.env.scope.names.lookup x = some .local := by first | exact .inl rfl | exact .inr rfl | assumption) : SG X [i] (.Name x pos) (gN i) :=
  pg_imp (pg_name hN hi hx hf) fun v σ H Q h => by
    obtain ⟨m, fr, d, fr', s, r, e, q⟩ := h
    cases e
    exact q _ (s.set i r) (by simp) (fun j hj => by rw [List.getElem?_set_ne]; simp at hj; exact fun e => hj e.symm)
theorem sgs_nil : SGs X [] [] gs0 := pgs_imp pgs_nil fun v σ H Q h => by
  obtain ⟨m, fr, d, fr', s, r, e, q⟩ := h
  cases d with
  | nil => cases e; simp only [RepL] at r; exact ⟨r, q σ s rfl (fun _ _ => rfl)⟩
  | cons d ds => cases e
theorem sgs_cons {e : Expr} {es : List Expr} {g : MG} {gs : MGs} {sl sl' : List Nat} (h1 : SG X sl e g) (h2 : SGs X sl' es gs)
    (hs : (assignEach (e :: es) X.env).map (·.2) = assign e X.env :: (assignEach es X.env).map (·.2) := by rfl) : SGs X (sl ++ sl') (e :: es) (gsC g gs) :=
  pgs_imp (pgs_cons h1 h2 hs) fun v σ H Q h => by
    obtain ⟨m, fr, d, fr', s, r, e, q⟩ := h
    cases d with
    | nil => cases e
    | cons d ds =>
      simp only [RepL] at r
      obtain ⟨v1, vr, ev, r1, r2⟩ := r
      unfold gsC at e
      cases e1 : g d fr with
      | none => simp only [e1] at e; cases e
      | some fr1 =>
        simp only [e1] at e
        refine ⟨v1, vr, ev, m, fr, d, fr1, s, r1, e1, fun σ1 s1 l1 k1 => ⟨m, fr1, ds, fr', s1, r2, e, fun σ2 s2 l2 k2 => q σ2 s2 (l2.trans l1) fun i hi => ?_⟩⟩
        rw [List.mem_append, not_or] at hi
        rw [k2 i hi.2, k1 i hi.1]
theorem sg_tup {es : List Expr} {k n : Nat} {gs : MGs} {sl : List Nat} (hc : X.calm = true) (h : SGs X sl es gs) (hn : (assignEach es X.env).length = n := by rfl) (hst : (assignEach es X.env).findIdx? (·.1) = none := by rfl) : SG X sl (.Tuple es k pos) (gT n gs) :=
  pg_imp (pg_tup hc h hn hst) fun v σ H Q h => by
    obtain ⟨m, fr, d, fr', s, r, e, q⟩ := h
    cases d with
    | tup ds =>
      simp only [gT] at e
      split at e
      · rename_i hl
        simp only [Rep] at r
        obtain ⟨a, vs, ev, t, r⟩ := r
        exact ⟨a, vs, ev, t.sq, r.length.trans hl, m, fr, ds, fr', s, r, e, q⟩
      · cases e
    | _ => cases e
/-- target = value -/
def sAsg (g : MG) (f : ME) : MS := fun fr S => (f fr S).then fun d S => match g d fr with | some fr' => .nx fr' S | none => .bad
theorem ss_asg {E : WX} {tg e : Expr} {f : ME} {g : MG} {sl : List Nat} (he : SE X E e f) (hg : SG X sl tg g) (hs : swapsWithSole [tg] e pos.line X.env = pure false := by rfl) (hw : swappedStores [tg] e X.env = pure none := by rfl)
    (h1 : (assignEach [tg] X.env).map (·.2) = [assign tg X.env] := by rfl) : SS X E (.Assign [tg] e pos) (sAsg g f) := ps_imp (ps_asg he hg hs hw h1) fun Dn σ H h => by
  obtain ⟨m, fr, S, at_, h⟩ := h
  refine ⟨m, fr, S, at_, PSt.then h fun x S1 m1 v H1 e g' s r p => ?_⟩
  cases e1 : g x fr with
  | none => simp only [e1] at p; exact p.elim
  | some fr' =>
    simp only [e1] at p
    exact ⟨m1, fr, x, fr', at_.f.mono g', r, e1, fun σ' s' _ _ => p m1 σ' H1 (.refl _ _) ⟨s', s⟩⟩
end
/-! ### what is walked -/
structure Its where
  items : List D
  guard : Option (Nat × List D)
def okG (it : Its) (S : Sto) : Prop := match it.guard with
  | none => True
  | some (n, ds) => S[n]? = some (.lst ds)
structure WalkS (G : W3) (it : Its) (m1 : Mp) (H1 : Hp) (J : L2.It) : Prop where
  go : ∀ (i : Nat) m H S, Grow m1 H1 m H → Sim G H m S → okG it S → i < it.items.length → J.go i H
  stop : ∀ m H S, Grow m1 H1 m H → Sim G H m S → okG it S → J.stop it.items.length H
  yld : ∀ (i : Nat) m H S x H', Grow m1 H1 m H → Sim G H m S → okG it S → i < it.items.length → J.yld i H x H' → Grow m H m H' ∧ Sim G H' m S ∧ ∃ d, it.items[i]? = some d ∧ Rep G.K H' m d x
abbrev MI := Fr → Sto → Res Its
def PIk (G : W3) (mg : Str → Option Value) (E : WX) (σ : L2.St) (m : Mp) (H : Hp) (R : L2.It → Hp → Prop) : Res Its → Prop
  | .ok it S' => ∀ m' H' J, Grow m H m' H' → Sim G H' m' S' → WalkS G it m' H' J → R J H'
  | .exc c S' => ∀ m' H' C, Grow m H m' H' → Sim G H' m' S' → mg c = some (.ref C) → E (.ref C) none σ H'
  | .bad => False
def tI (G : W3) (mg : Str → Option Value) (E : WX) (f : MI) : TI := fun σ H R => ∃ m fr S, At G H m σ fr S ∧ PIk G mg E σ m H R (f fr S)
def SI (X : Cx) (E : WX) (tg iter : Expr) (f : MI) : Prop := PI X tg iter (tI (g3 X) X.mg E f)
theorem pi_imp {X : Cx} {tg iter : Expr} {t t' : TI} (h : PI X tg iter t) (w : ∀ σ H R, t' σ H R → t σ H R) : PI X tg iter t' := ⟨fun pins s σ H R I q => h.run pins s σ H R I (w σ H R q)⟩
theorem PIk.mono {G : W3} {mg : Str → Option Value} {E : WX} {σ : L2.St} {m m1 : Mp} {H H1 : Hp} {R : L2.It → Hp → Prop} {r : Res Its} (g : Grow m H m1 H1) (h : PIk G mg E σ m H R r) : PIk G mg E σ m1 H1 R r := by
  cases r with
  | ok a S => exact fun m' H' J g' s' r' => h m' H' J (g.trans g') s' r'
  | exc c S => exact fun m' H' C g' s' e' => h m' H' C (g.trans g') s' e'
  | bad => exact h
theorem PIk.bind {α β : Type} {R : Hp → Mp → α → β → Prop} {G : W3} {mg : Str → Option Value} {E : WX} {σ : L2.St} {m : Mp} {H : Hp} {Q : L2.It → Hp → Prop} {Q1 : β → Hp → Prop} {r : Res α} {k : α → Sto → Res Its}
    (h : PIk G mg E σ m H Q (r.bind k)) (hq : ∀ a S1 m1 v H1, r = .ok a S1 → Grow m H m1 H1 → Sim G H1 m1 S1 → R H1 m1 a v → PIk G mg E σ m1 H1 Q (k a S1) → Q1 v H1) : POk R G mg E σ m H Q1 r := by
  cases r with
  | ok a S => exact fun m' v H' g' s' r' => hq a S m' v H' rfl g' s' r' (PIk.mono (r := k a S) g' h)
  | exc c S => exact h
  | bad => exact h
theorem walkS_list {G : W3} {it : Its} {m1 : Mp} {H1 : Hp} {a : Addr} (h : ∀ m H S, Grow m1 H1 m H → Sim G H m S → okG it S → ∃ vs, SqL G.K H a vs ∧ RepL G.K H m it.items vs) : WalkS G it m1 H1 (Itl G.K a) where
  go := fun i m H S g s o hi => by
    obtain ⟨vs, h1, r⟩ := h m H S g s o
    obtain ⟨v, e, _⟩ := r.get (List.getElem?_eq_getElem hi)
    exact ⟨vs, v, h1, e⟩
  stop := fun m H S g s o => by
    obtain ⟨vs, h1, r⟩ := h m H S g s o
    exact ⟨vs, h1, by rw [r.length]; exact Nat.le_refl _⟩
  yld := fun i m H S x H' g s o hi hy => by
    obtain ⟨vs, h1, r⟩ := h m H S g s o
    obtain ⟨rfl, hy⟩ := hy
    obtain ⟨d, e1, r⟩ := r.getV (hy vs h1)
    exact ⟨.refl _ _, s, d, e1, r⟩
theorem walkS_tup {G : W3} {it : Its} {m1 : Mp} {H1 : Hp} {a : Addr} (h : ∀ m H S, Grow m1 H1 m H → Sim G H m S → okG it S → ∃ vs, SqT G.K H a vs ∧ RepL G.K H m it.items vs) : WalkS G it m1 H1 (Itt G.K a) where
  go := fun i m H S g s o hi => by
    obtain ⟨vs, h1, r⟩ := h m H S g s o
    obtain ⟨v, e, _⟩ := r.get (List.getElem?_eq_getElem hi)
    exact ⟨vs, v, h1, e⟩
  stop := fun m H S g s o => by
    obtain ⟨vs, h1, r⟩ := h m H S g s o
    exact ⟨vs, h1, by rw [r.length]; exact Nat.le_refl _⟩
  yld := fun i m H S x H' g s o hi hy => by
    obtain ⟨vs, h1, r⟩ := h m H S g s o
    obtain ⟨rfl, hy⟩ := hy
    obtain ⟨d, e1, r⟩ := r.getV (hy vs h1)
    exact ⟨.refl _ _, s, d, e1, r⟩
/-- the items of a sequence as the store has them -/
def seqIts (S : Sto) : D → Option Its
  | .tup ds => some ⟨ds, none⟩
  | .lst ds => some ⟨ds, none⟩
  | .ref n => (match S[n]? with | some (.lst ds) => some ⟨ds, some (n, ds)⟩ | _ => none)
  | _ => none
theorem Sim.lst {G : W3} {H : Hp} {m : Mp} {S : Sto} (s : Sim G H m S) {n : Nat} {a : Addr} {ds : List D} (h : m.at_[n]? = some a) (h2 : S[n]? = some (.lst ds)) : ∃ vs, H a = some (.lst vs) ∧ RepL G.K H m ds vs := s.at_ n a _ h h2
theorem seq_cases {G : W3} {H : Hp} {m : Mp} {S : Sto} {d : D} {v : V} {it : Its} (s : Sim G H m S) (r : Rep G.K H m d v) (e : seqIts S d = some it) :
    ∃ a, v = .ref a ∧ ((∃ vs, SqL G.K H a vs ∧ RepL G.K H m it.items vs ∧ WalkS G it m H (Itl G.K a)) ∨ (∃ vs, SqT G.K H a vs ∧ RepL G.K H m it.items vs ∧ WalkS G it m H (Itt G.K a))) := by
  cases d with
  | tup ds =>
    cases e
    simp only [Rep] at r
    obtain ⟨a, vs, ev, t, r⟩ := r
    refine ⟨a, ev, .inr ⟨vs, t.sq, r, walkS_tup fun m' H' S' g s' _ => ⟨vs, (t.mono g).sq, r.mono g⟩⟩⟩
  | lst ds =>
    cases e
    simp only [Rep] at r
    obtain ⟨a, vs, ev, hn, t, r⟩ := r
    refine ⟨a, ev, .inl ⟨vs, .of t, r, walkS_list fun m' H' S' g s' _ => ⟨vs, .of (g.keep _ _ t hn.1), r.mono g⟩⟩⟩
  | ref n =>
    simp only [seqIts] at e
    split at e
    · rename_i ds hS
      cases e
      simp only [Rep] at r
      obtain ⟨a, ev, ha⟩ := r
      obtain ⟨vs, h1, r1⟩ := s.lst ha hS
      refine ⟨a, ev, .inl ⟨vs, .of h1, r1, walkS_list fun m' H' S' g s' o => ?_⟩⟩
      obtain ⟨vs', h2, r2⟩ := s'.lst (g.at ha) o
      exact ⟨vs', .of h2, r2⟩
    · cases e
  | _ => cases e
def iSeq (f : ME) : MI := fun fr S => (f fr S).bind fun d S => match seqIts S d with | some it => .ok it S | none => .bad
section
variable {X : Cx} {E : WX} {tg : Expr}
/-- a list or a tuple is walked -/
theorem pi_either {l : Expr} {tl : TE} (hl : PE X l tl) : PI X tg l (fun σ H R => tl σ H fun x H1 => ∃ a, x = .ref a ∧ (((∃ xs, SqL X.K H1 a xs) ∧ R (Itl X.K a) H1) ∨ ((∃ xs, SqT X.K H1 a xs) ∧ R (Itt X.K a) H1))) := by
  constructor
  intro pins s σ H R I h
  refine thn (hl.run pins s σ H _ I h) ?_
  rintro v s1 ⟨x, H1, I1, r1, a, rfl, ⟨⟨xs, hq⟩, q⟩ | ⟨⟨xs, hq⟩, q⟩⟩
  · cases r1
    obtain ⟨its, rv, p, hz⟩ := I1.list hq
    apply wpAny_pyIter_list p.isList
    exact ⟨_, [s1.heap.objs.size], _, _, H1, rfl, I1.kept (t' := s1.toks) fun b o e => Heap.get?_push_of_some _ e, turn_list a _, ⟨_, Heap.get?_push_size _ rfl, rfl, rfl⟩,
      fun b hb => by rw [List.mem_singleton.1 hb]; exact I1.fpOk (Nat.le_refl _) (I1.hok.fresh (Nat.le_refl _)), q⟩
  · cases r1
    obtain ⟨its, rv, p, hz⟩ := I1.tuple hq
    apply wpAny_pyIter_tuple (show s1.heap.IsTuple a its.toArray from p)
    exact ⟨_, [s1.heap.objs.size], _, _, H1, rfl, I1.kept (t' := s1.toks) fun b o e => Heap.get?_push_of_some _ e, turn_tuple a _, ⟨_, Heap.get?_push_size _ rfl, rfl, rfl⟩,
      fun b hb => by rw [List.mem_singleton.1 hb]; exact I1.fpOk (Nat.le_refl _) (I1.hok.fresh (Nat.le_refl _)), q⟩
theorem si_seq {l : Expr} {f : ME} (hl : SE X E l f) : SI X E tg l (iSeq f) := pi_imp (pi_either hl) fun σ H R h => by
  obtain ⟨m, fr, S, at_, h⟩ := h
  refine ⟨m, fr, S, at_, PIk.bind h fun d S1 m1 v H1 e g s r p => ?_⟩
  cases e1 : seqIts S1 d with
  | none => simp only [e1] at p; exact p.elim
  | some it =>
    simp only [e1] at p
    obtain ⟨a, ev, ⟨vs, h1, h2, w⟩ | ⟨vs, h1, h2, w⟩⟩ := seq_cases s r e1
    · exact ⟨a, ev, .inl ⟨⟨vs, h1⟩, p m1 H1 _ (.refl _ _) s w⟩⟩
    · exact ⟨a, ev, .inr ⟨⟨vs, h1⟩, p m1 H1 _ (.refl _ _) s w⟩⟩
/-- range(n), range(a, b) -/
def rngD (lo : Int) (n : Nat) : List D := (List.range n).map fun (i : Nat) => D.int (lo + i)
theorem rngD_get {lo : Int} {n i : Nat} (h : i < n) : (rngD lo n)[i]? = some (.int (lo + i)) := by
  unfold rngD; rw [List.getElem?_map, List.getElem?_range h]; rfl
theorem rngD_len (lo : Int) (n : Nat) : (rngD lo n).length = n := by unfold rngD; simp
theorem walkS_range {G : W3} {m1 : Mp} {H1 : Hp} {lo : Int} {n : Nat} : WalkS G ⟨rngD lo n, none⟩ m1 H1 (Itr lo n) where
  go := fun i m H S g s o hi => by show i < n; rw [rngD_len] at hi; exact hi
  stop := fun m H S g s o => by show n ≤ _; rw [rngD_len]; exact Nat.le_refl _
  yld := fun i m H S x H' g s o hi hy => by
    obtain ⟨rfl, rfl⟩ := hy
    rw [rngD_len] at hi
    exact ⟨.refl _ _, s, _, rngD_get hi, by simp only [Rep]⟩
open Classical in
noncomputable def iRng1' (f : MA) : MI := fun fr S => (f fr S).bind fun xs S => match xs with
  | [.int j] => if -(2 ^ 62) ≤ j ∧ j < 2 ^ 62 then .ok ⟨rngD 0 j.toNat, none⟩ S else .bad
  | _ => .bad
open Classical in
noncomputable def iRng2' (f : MA) : MI := fun fr S => (f fr S).bind fun xs S => match xs with
  | [.int i, .int j] => if -(2 ^ 62) ≤ i ∧ i < 2 ^ 62 ∧ -(2 ^ 62) ≤ j ∧ j < 2 ^ 62 then .ok ⟨rngD i (j - i).toNat, none⟩ S else .bad
  | _ => .bad
theorem si_range1 {a : Expr} {f : MA} {p pos : Pos} (hg : Gl X "range") (hm : X.mg "range" = none) (ha : SA X E [a] f) (hs : starEach [a] X.env = [(false, eval a X.env)] := by rfl) : SI X E tg (.Call (.Name "range" p) [a] [] pos) (iRng1' f) :=
  pi_imp (pi_range1 hg hm ha hs) fun σ H R h => by
    obtain ⟨m, fr, S, at_, h⟩ := h
    refine ⟨m, fr, S, at_, PIk.bind h fun d S1 m1 v H1 e g s r p => ?_⟩
    split at p
    · rename_i j
      split at p
      · rename_i hj
        have ev := RepL.ints (ns := [j]) r
        exact ⟨j, ev, hj.1, hj.2, p m1 H1 _ (.refl _ _) s walkS_range⟩
      · exact p.elim
    · exact p.elim
theorem si_range2 {a b : Expr} {f : MA} {p pos : Pos} (hg : Gl X "range") (hm : X.mg "range" = none) (ha : SA X E [a, b] f) (hs : starEach [a, b] X.env = [(false, eval a X.env), (false, eval b X.env)] := by rfl) (hs2 : starEach [b] X.env = [(false, eval b X.env)] := by rfl) :
    SI X E tg (.Call (.Name "range" p) [a, b] [] pos) (iRng2' f) :=
  pi_imp (pi_range2 hg hm ha hs hs2) fun σ H R h => by
    obtain ⟨m, fr, S, at_, h⟩ := h
    refine ⟨m, fr, S, at_, PIk.bind h fun d S1 m1 v H1 e g s r p => ?_⟩
    split at p
    · rename_i i j
      split at p
      · rename_i hj
        have ev := RepL.ints (ns := [i, j]) r
        exact ⟨i, j, ev, hj, p m1 H1 _ (.refl _ _) s walkS_range⟩
      · exact p.elim
    · exact p.elim
/-- enumerate(list) -/
def enumD (i : Nat) : List D → List D
  | [] => []
  | d :: ds => .tup [.int i, d] :: enumD (i + 1) ds
theorem enumD_len : ∀ (i : Nat) (ds : List D), (enumD i ds).length = ds.length
  | _, [] => rfl
  | i, d :: ds => by simp only [enumD, List.length_cons, enumD_len (i + 1) ds]
theorem enumD_get : ∀ (i : Nat) (ds : List D) (j : Nat) (d : D), ds[j]? = some d → (enumD i ds)[j]? = some (.tup [.int ((i + j : Nat) : Int), d])
  | i, [], j, d, h => by simp at h
  | i, d' :: ds, 0, d, h => by simp at h; subst h; rfl
  | i, d' :: ds, j + 1, d, h => by
    simp at h
    have := enumD_get (i + 1) ds j d h
    simp only [enumD, List.getElem?_cons_succ, this]
    rw [show i + 1 + j = i + (j + 1) by omega]
def iEnum' (f : MA) : MI := fun fr S => (f fr S).bind fun xs S => match xs with
  | [.lst ds] => .ok ⟨enumD 0 ds, none⟩ S
  | [.ref n] => (match S[n]? with | some (.lst ds) => .ok ⟨enumD 0 ds, some (n, ds)⟩ S | _ => .bad)
  | _ => .bad
theorem Rep.pair {G : W3} {H : Hp} {m : Mp} {T : Addr} {x y : V} {d e : D} (hT : H T = none) (r1 : Rep G.K H m d x) (r2 : Rep G.K H m e y) : Rep G.K (upd H T (.tup [x, y])) m (.tup [d, e]) (.ref T) :=
  .newTup hT (.cons r1 (.one r2))
theorem walkS_enum {G : W3} {ds : List D} {gd : Option (Nat × List D)} {m1 : Mp} {H1 : Hp} {a : Addr} (h : ∀ m H S, Grow m1 H1 m H → Sim G H m S → okG ⟨enumD 0 ds, gd⟩ S → ∃ vs, SqL G.K H a vs ∧ RepL G.K H m ds vs) : WalkS G ⟨enumD 0 ds, gd⟩ m1 H1 (Ite G.K a) where
  go := fun i m H S g s o hi => by
    obtain ⟨vs, h1, r⟩ := h m H S g s o
    rw [enumD_len] at hi
    obtain ⟨v, e, _⟩ := r.get (List.getElem?_eq_getElem hi)
    exact ⟨vs, v, h1, e⟩
  stop := fun m H S g s o => by
    obtain ⟨vs, h1, r⟩ := h m H S g s o
    exact ⟨vs, h1, by rw [r.length, enumD_len]; exact Nat.le_refl _⟩
  yld := fun i m H S x H' g s o hi hy => by
    obtain ⟨vs, h1, r⟩ := h m H S g s o
    obtain ⟨T, y, rfl, hT, rfl, hy⟩ := hy
    obtain ⟨d, e1, r1⟩ := r.getV (hy vs h1)
    refine ⟨.new hT, s.new hT, .tup [.int (i : Nat), d], ?_, .pair hT (by simp only [Rep]) r1⟩
    have := enumD_get 0 ds i d e1
    rw [Nat.zero_add] at this
    exact this
theorem si_enum {e : Expr} {f : MA} {p pos tpos : Pos} {elts : List Expr} {kk : Nat} (hg : Gl X "enumerate") (hm : X.mg "enumerate" = none) (ha : SA X E [e] f) (hs : starEach [e] X.env = [(false, eval e X.env)] := by rfl) :
    SI X E (.Tuple elts kk tpos) (.Call (.Name "enumerate" p) [e] [] pos) (iEnum' f) := pi_imp (pi_enum hg hm ha hs) fun σ H R h => by
  obtain ⟨m, fr, S, at_, h⟩ := h
  refine ⟨m, fr, S, at_, PIk.bind h fun d S1 m1 v H1 e g s r p => ?_⟩
  split at p
  · rename_i ds
    simp only [RDs, RepL, Rep] at r
    obtain ⟨v1, r1, rfl, ⟨a, vs, rfl, hn, t, rr⟩, rfl⟩ := r
    exact ⟨a, vs, rfl, .of t, p m1 H1 _ (.refl _ _) s (walkS_enum fun m' H' S' g s' _ => ⟨vs, .of (g.keep _ _ t hn.1), rr.mono g⟩)⟩
  · rename_i n
    split at p
    · rename_i ds hS
      simp only [RDs, RepL, Rep] at r
      obtain ⟨v1, r1, rfl, ⟨a, rfl, ha⟩, rfl⟩ := r
      obtain ⟨vs, h1, r1⟩ := s.lst ha hS
      refine ⟨a, vs, rfl, .of h1, p m1 H1 _ (.refl _ _) s (walkS_enum fun m' H' S' g s' o => ?_)⟩
      obtain ⟨vs', h2, r2⟩ := s'.lst (g.at ha) o
      exact ⟨vs', .of h2, r2⟩
    · exact p.elim
  · exact p.elim
/-- zip of two lists by value -/
def zipD (xs ys : List D) : List D := (xs.zip ys).map fun p => .tup [p.1, p.2]
def iZip' (f : MA) : MI := fun fr S => (f fr S).bind fun xs S => match xs with
  | [.lst ds, .lst es] => .ok ⟨zipD ds es, none⟩ S
  | _ => .bad
theorem si_zip {e e2 : Expr} {f : MA} {p pos tpos : Pos} {elts : List Expr} {kk : Nat} (hg : Gl X "zip") (hm : X.mg "zip" = none) (ha : SA X E [e, e2] f)
    (hs : starEach [e, e2] X.env = (false, eval e X.env) :: starEach [e2] X.env := by rfl) (hpl : (backTo pos (starEach [e2] X.env)).any (·.1) = false := by rfl) :
    SI X E (.Tuple elts kk tpos) (.Call (.Name "zip" p) [e, e2] [] pos) (iZip' f) := pi_imp (pi_zip hg hm ha hs hpl) fun σ H R h => by
  obtain ⟨m, fr, S, at_, h⟩ := h
  refine ⟨m, fr, S, at_, PIk.bind h fun d S1 m1 v H1 e g s r p => ?_⟩
  split at p
  · rename_i ds es
    simp only [RDs, RepL, Rep] at r
    obtain ⟨v1, r1, rfl, ⟨a, vs, rfl, hn, t, rr⟩, v2, r2, rfl, ⟨b, us, rfl, hn2, t2, rr2⟩, rfl⟩ := r
    have hl : (zipD ds es).length = min ds.length es.length := by unfold zipD; simp
    refine ⟨a, b, vs, us, rfl, .of t, .of t2, p m1 H1 _ (.refl _ _) s ⟨fun i m' H' S' g s' _ hi => ?_, fun m' H' S' g s' _ => ?_, fun i m' H' S' x H2 g s' _ hi hy => ?_⟩⟩
    · rw [hl] at hi
      have l1 := rr.length; have l2 := rr2.length
      exact ⟨vs, us, vs[i], us[i], .of (g.keep _ _ t hn.1), .of (g.keep _ _ t2 hn2.1), List.getElem?_eq_getElem (by omega), List.getElem?_eq_getElem (by omega)⟩
    · have l1 := rr.length; have l2 := rr2.length
      exact ⟨vs, us, .of (g.keep _ _ t hn.1), .of (g.keep _ _ t2 hn2.1), by rw [hl]; omega⟩
    · obtain ⟨T, x1, y1, rfl, hT, rfl, f1, f2⟩ := hy
      obtain ⟨d1, e1, r1⟩ := (rr.mono g).getV (f1 vs (SqL.of (g.keep _ _ t hn.1)))
      obtain ⟨d2, e2, r2⟩ := (rr2.mono g).getV (f2 us (SqL.of (g.keep _ _ t2 hn2.1)))
      refine ⟨.new hT, s'.new hT, .tup [d1, d2], ?_, .pair hT r1 r2⟩
      show (zipD ds es)[i]? = _
      unfold zipD
      rw [List.getElem?_map]
      have : (ds.zip es)[i]? = some (d1, d2) := by rw [List.getElem?_zip_eq_some]; exact ⟨e1, e2⟩
      rw [this]; rfl
  · exact p.elim
end
/-! ### for -/
open Classical in
noncomputable def loopF (it : Its) (g : MG) (body : MS) : List D → Fr → Sto → RS
  | [], fr, S => if okG it S then .nx fr S else .bad
  | d :: ds, fr, S => if okG it S then (match g d fr with
      | none => .bad
      | some fr1 => match body fr1 S with
        | .nx fr S => loopF it g body ds fr S
        | .cnt fr S => loopF it g body ds fr S
        | .brk fr S => .nx fr S
        | r => r) else .bad
noncomputable def sFor (fi : MI) (g : MG) (body : MS) : MS := fun fr S => (fi fr S).then fun it S => loopF it g body it.items fr S
theorem PIk.then {G : W3} {mg : Str → Option Value} {E : WX} {σ : L2.St} {m : Mp} {H : Hp} {Dn : Ends} {Q1 : L2.It → Hp → Prop} {r : Res Its} {k : Its → Sto → RS}
    (h : PSt G mg E m H Dn (r.then k)) (hq : ∀ it S1 m1 H1 J, r = .ok it S1 → Grow m H m1 H1 → Sim G H1 m1 S1 → WalkS G it m1 H1 J → PSt G mg E m1 H1 Dn (k it S1) → Q1 J H1) : PIk G mg E σ m H Q1 r := by
  cases r with
  | ok a S => exact fun m' H' J g' s' r' => hq a S m' H' J rfl g' s' r' (PSt.mono (r := k a S) g' h)
  | exc c S => exact fun m' H' C g' s' e' => h m' σ H' C g' s' e'
  | bad => exact h
section
variable {X : Cx} {E : WX} {tg : Expr}
theorem ss_for {iter : Expr} {body : List Stmt} {fi : MI} {g : MG} {sl : List Nat} {b : MS} {pos : Pos} (hp : PassesOwn (model X.prog X.w) X.A X.env X.xe) (hc : X.calm = true) (hi : SI X E tg iter fi) (hg : SG X sl tg g) (hb : SB X E body b)
    (hs : ∀ x, foldedSetIterable iter X.env x = pure x := by intro _; rfl) : SS X E (.For tg iter body [] pos) (sFor fi g b) := ps_imp (ps_for hp hc hi hg hb hs) fun Dn σ H h => by
  obtain ⟨m, fr, S, at_, h⟩ := h
  refine ⟨m, fr, S, at_, PIk.then h fun it S1 m1 H1 J e g1 s1 w p => ?_⟩
  refine ⟨fun i k σ' H' => i + k = it.items.length ∧ ∃ m' fr' S', Grow m1 H1 m' H' ∧ At (g3 X) H' m' σ' fr' S' ∧ PSt (g3 X) X.mg E m' H' Dn (loopF it g b (it.items.drop i) fr' S'),
    ⟨it.items.length, by omega, m1, fr, S1, .refl _ _, ⟨at_.f.mono g1, s1⟩, by simpa using p⟩, ?_⟩
  rintro i k σ' H' ⟨hik, m', fr', S', g', a', p'⟩
  by_cases hi : i < it.items.length
  · right
    rw [List.drop_eq_getElem_cons hi] at p'
    unfold loopF at p'
    by_cases ho : okG it S'
    · rw [if_pos ho] at p'
      refine ⟨w.go i m' H' S' g' a'.s ho hi, fun σ2 H2 => ∃ m2 fr2 S2, Grow m1 H1 m2 H2 ∧ At (g3 X) H2 m2 σ2 fr2 S2 ∧ PSt (g3 X) X.mg E m2 H2 Dn (loopF it g b (it.items.drop (i + 1)) fr2 S2), ?_, ?_⟩
      · rintro σ2 H2 ⟨m2, fr2, S2, x1, x2, x3⟩
        exact ⟨k - 1, by omega, by omega, m2, fr2, S2, x1, x2, x3⟩
      · intro x H2 hy
        obtain ⟨g2, s2, d, ed, rd⟩ := w.yld i m' H' S' x H2 g' a'.s ho hi hy
        have ed' : it.items[i] = d := by rw [List.getElem?_eq_getElem hi] at ed; exact Option.some.inj ed
        rw [ed'] at p'
        cases e1 : g d fr' with
        | none => simp only [e1] at p'; exact p'.elim
        | some fr1 =>
          simp only [e1] at p'
          refine ⟨m', fr', d, fr1, a'.f.mono g2, rd, e1, fun σ3 s3 _ _ => ⟨m', fr1, S', ⟨s3, s2⟩, ?_⟩⟩
          have gg := g'.trans g2
          have p2 := fun r => PSt.mono (G := g3 X) (mg := X.mg) (E := E) (Dn := Dn) (r := r) g2
          cases eb : b fr1 S' with
          | nx fr2 S2 =>
            simp only [eb] at p'
            exact fun m3 σ4 H3 g3' a3 => ⟨m3, fr2, S2, gg.trans g3', a3, (p2 _ p').mono g3'⟩
          | cnt fr2 S2 =>
            simp only [eb] at p'
            exact fun m3 σ4 H3 g3' a3 => ⟨m3, fr2, S2, gg.trans g3', a3, (p2 _ p').mono g3'⟩
          | brk fr2 S2 =>
            simp only [eb] at p'
            exact p2 _ p'
          | ret d2 S2 => simp only [eb] at p'; exact p2 (.ret d2 S2) p'
          | exc c S2 => simp only [eb] at p'; exact p2 (.exc c S2) p'
          | bad => simp only [eb] at p'; exact p'.elim
    · rw [if_neg ho] at p'; exact p'.elim
  · left
    have hil : i = it.items.length := by omega
    rw [hil, List.drop_length] at p'
    unfold loopF at p'
    by_cases ho : okG it S'
    · rw [if_pos ho] at p'
      rw [hil]
      exact ⟨w.stop m' H' S' g' a'.s ho, p' m' σ' H' (.refl _ _) a'⟩
    · rw [if_neg ho] at p'; exact p'.elim
end
/-! ### while -/
def whileF (c : MT) (body : MS) : Nat → Fr → Sto → RS
  | 0, _, _ => .bad
  | n + 1, fr, S => (c fr S).then fun b S => if b then (match body fr S with
      | .nx fr S => whileF c body n fr S
      | .cnt fr S => whileF c body n fr S
      | .brk fr S => .nx fr S
      | r => r) else .nx fr S
def sWhile (n : Nat) (c : MT) (body : MS) : MS := fun fr S => whileF c body n fr S
section
variable {X : Cx} {E : WX}
theorem ss_while {c : Expr} {body : List Stmt} {p : MT} {b : MS} {pos : Pos} (n : Nat) (hp : PassesOwn (model X.prog X.w) X.A X.env X.xe) (hc : ST X E c p) (hb : SB X E body b) : SS X E (.While c body [] pos) (sWhile n p b) :=
  ps_imp (ps_while hp hc hb) fun Dn σ H h => by
    obtain ⟨m, fr, S, at_, h⟩ := h
    refine ⟨fun k σ' H' => ∃ m' fr' S', At (g3 X) H' m' σ' fr' S' ∧ PSt (g3 X) X.mg E m' H' Dn (whileF p b k fr' S'), ⟨n, m, fr, S, at_, h⟩, ?_⟩
    rintro k σ' H' ⟨m', fr', S', a', p'⟩
    cases k with
    | zero => exact p'.elim
    | succ k =>
      refine ⟨m', fr', S', a', PSt.then p' fun x S1 m1 v H1 e g1 s1 r1 p1 => ?_⟩
      subst r1
      have a1 : At (g3 X) H1 m1 σ' fr' S1 := ⟨a'.f.mono g1, s1⟩
      cases v with
      | false => exact p1 m1 σ' H1 (.refl _ _) a1
      | true =>
        refine ⟨fun σ2 H2 => ∃ m2 fr2 S2, At (g3 X) H2 m2 σ2 fr2 S2 ∧ PSt (g3 X) X.mg E m2 H2 Dn (whileF p b k fr2 S2), ?_, m1, fr', S1, a1, ?_⟩
        · rintro σ2 H2 ⟨m2, fr2, S2, x1, x2⟩
          exact ⟨k, Nat.lt_succ_self _, m2, fr2, S2, x1, x2⟩
        · simp only [if_true] at p1
          cases eb : b fr' S1 with
          | nx fr2 S2 => simp only [eb] at p1; exact fun m3 σ4 H3 g3' a3 => ⟨m3, fr2, S2, a3, p1.mono g3'⟩
          | cnt fr2 S2 => simp only [eb] at p1; exact fun m3 σ4 H3 g3' a3 => ⟨m3, fr2, S2, a3, p1.mono g3'⟩
          | brk fr2 S2 => simp only [eb] at p1; exact p1
          | ret d2 S2 => simp only [eb] at p1; exact p1
          | exc c S2 => simp only [eb] at p1; exact p1
          | bad => simp only [eb] at p1; exact p1.elim
end
/-! ### list comprehensions -/
open Classical in
noncomputable def compL (it : Its) (g : MG) (c : MT) (e : ME) (fr : Fr) : List D → Sto → List D → Res (List D)
  | [], S, acc => if okG it S then .ok acc S else .bad
  | d :: ds, S, acc => if okG it S ∧ acc.length < sz then (match g d fr with
      | none => .bad
      | some fr1 => match c fr1 S with
        | .ok true S => (match e fr1 S with
          | .ok y S => compL it g c e fr ds S (acc ++ [y])
          | _ => .bad)
        | .ok false S => compL it g c e fr ds S acc
        | _ => .bad) else .bad
def wipeF (fr : Fr) : List Nat → Fr
  | [] => fr
  | v :: vs => (wipeF fr vs).set v none
/-- [e for t in i if c], by value -/
noncomputable def eComp (vs : List Nat) (fi : MI) (g : MG) (c : MT) (e : ME) : ME := fun fr S => (fi fr S).bind fun it S => (compL it g c e (wipeF fr vs) it.items S []).bind fun xs S => .ok (.lst xs) S
/-- .. to the store -/
noncomputable def eNewComp (vs : List Nat) (fi : MI) (g : MG) (c : MT) (e : ME) : ME := fun fr S => (fi fr S).bind fun it S => (compL it g c e (wipeF fr vs) it.items S []).bind fun xs S => .ok (.ref S.length) (S ++ [.lst xs])
def tTrue : MT := fun _ S => .ok true S
theorem SimF.wipe {K : PySem.W.Frag} {H : Hp} {m : Mp} {σ : L2.St} {fr : Fr} (s : SimF K H m σ fr) : ∀ vs : List Nat, SimF K H m (L2.wipe σ vs) (wipeF fr vs)
  | [] => s
  | v :: vs => (s.wipe vs).set' v
theorem wipe_get (σ : L2.St) (i : Nat) : ∀ vs : List Nat, (L2.wipe σ vs)[i]? = if i ∈ vs ∧ i < σ.length then some none else σ[i]?
  | [] => by simp [L2.wipe]
  | v :: vs => by
    show ((L2.wipe σ vs).set v none)[i]? = _
    by_cases hv : v = i
    · subst hv
      rw [List.getElem?_set]
      by_cases hl : v < σ.length
      · simp [wipe_length, hl]
      · simp [wipe_length, hl]
    · rw [List.getElem?_set_ne hv, wipe_get σ i vs]
      by_cases hi : i ∈ vs
      · simp [hi]
      · simp [hi, Ne.symm hv]
theorem wipe_eq {σ σ' : L2.St} {vs sl : List Nat} (hl : σ'.length = σ.length) (hs : ∀ i ∈ sl, i ∈ vs) (h : ∀ (i : Nat), i ∉ sl → σ'[i]? = (L2.wipe σ vs)[i]?) : L2.wipe σ' vs = L2.wipe σ vs := by
  apply List.ext_getElem?
  intro i
  rw [wipe_get σ' i vs, wipe_get σ i vs, hl]
  by_cases hi : i ∈ vs ∧ i < σ.length
  · rw [if_pos hi, if_pos hi]
  · rw [if_neg hi, if_neg hi]
    by_cases hv : i ∈ sl
    · have : ¬ i < σ.length := fun z => hi ⟨hs i hv, z⟩
      rw [List.getElem?_eq_none (by rw [hl]; exact Nat.le_of_not_lt this), List.getElem?_eq_none (Nat.le_of_not_lt this)]
    · rw [h i hv, wipe_get, if_neg hi]
/-! what is hidden changes: nothing that is told -/
section
variable {G : W3} {K : PySem.W.Frag} {H : Hp} {m : Mp} {p : Addr} {xs ys : List V}
mutual
theorem Rep.hidUpd (hp : p ∈ m.hid) (hH : H p = some (.lst xs)) : ∀ (d : D) (v : V), Rep K H m d v → Rep K (upd H p (.lst ys)) m d v
  | .non, v, h => by simpa only [Rep] using h
  | .bl b, v, h => by simpa only [Rep] using h
  | .int i, v, h => by simpa only [Rep] using h
  | .str x, v, h => by simpa only [Rep] using h
  | .tup ds, v, h => by
    simp only [Rep] at h ⊢
    obtain ⟨a, vs, e, t, r⟩ := h
    refine ⟨a, vs, e, ?_, RepL.hidUpd hp hH ds vs r⟩
    rcases t with t | t
    · exact .inl (by rw [upd_ne (ne_of t hH (by intro z; cases z))]; exact t)
    · exact .inr t
  | .lst ds, v, h => by
    simp only [Rep] at h ⊢
    obtain ⟨a, vs, e, hn, t, r⟩ := h
    have ha : a ≠ p := fun z => hn.2 (z ▸ hp)
    exact ⟨a, vs, e, hn, by rw [upd_ne ha]; exact t, RepL.hidUpd hp hH ds vs r⟩
  | .fz ds, v, h => by
    simp only [Rep] at h ⊢
    obtain ⟨a, vs, e, t, r⟩ := h
    refine ⟨a, vs, e, ?_, RepL.hidUpd hp hH ds vs r⟩
    rcases t with ⟨hn, o, t⟩ | t
    · exact .inl ⟨hn, o, by rw [upd_ne (ne_of t hH (by intro z; cases z))]; exact t⟩
    · exact .inr t
  | .ref n, v, h => by simpa only [Rep] using h
  | .adr a, v, h => by simpa only [Rep] using h
  | .ty n, v, h => by simpa only [Rep] using h
theorem RepL.hidUpd (hp : p ∈ m.hid) (hH : H p = some (.lst xs)) : ∀ (ds : List D) (vs : List V), RepL K H m ds vs → RepL K (upd H p (.lst ys)) m ds vs
  | [], vs, h => by simpa only [RepL] using h
  | d :: ds, vs, h => by
    simp only [RepL] at h ⊢
    obtain ⟨v, r, e, h1, h2⟩ := h
    exact ⟨v, r, e, Rep.hidUpd hp hH d v h1, RepL.hidUpd hp hH ds r h2⟩
end
theorem Sim.hidUpd {S : Sto} (s : Sim G H m S) (hp : p ∈ m.hid) (hH : H p = some (.lst xs)) : Sim G (upd H p (.lst ys)) m S := by
  refine ⟨s.len, s.nd, fun a ha => ⟨(s.hid a ha).1, ?_⟩, fun n a o h1 h2 => ?_⟩
  · by_cases e : a = p
    · subst e; rw [upd_same]; simp
    · rw [upd_ne e]; exact (s.hid a ha).2
  · have ha : a ≠ p := fun z => (s.hid p hp).1 (z ▸ List.mem_of_getElem? h1)
    have r := s.at_ n a o h1 h2
    cases o with
    | lst ds => obtain ⟨vs, e, r⟩ := r; exact ⟨vs, by rw [upd_ne ha]; exact e, r.hidUpd hp hH⟩
    | dS ds => obtain ⟨vs, e, r⟩ := r; exact ⟨vs, by rw [upd_ne ha]; exact e, r.hidUpd hp hH⟩
    | dP ds =>
      obtain ⟨xs, vs, e, k1, k2, r, k3⟩ := r
      refine ⟨xs, vs, by rw [upd_ne ha]; exact e, k1, k2, r.hidUpd hp hH, fun x hx => ?_⟩
      obtain ⟨hd, d, h1, h2⟩ := k3 x hx
      exact ⟨hd, d, h1, h2.hidUpd hp hH⟩
    | ins C ds => obtain ⟨dx, vs, e, r⟩ := r; exact ⟨dx, vs, by rw [upd_ne ha]; exact e, r.hidUpd hp hH⟩
end
/-! fewer things are hidden -/
section
variable {G : W3} {K : PySem.W.Frag} {H : Hp} {m m' : Mp}
mutual
theorem Rep.sub (h1 : m'.at_ = m.at_) (h2 : ∀ a ∈ m'.hid, a ∈ m.hid) : ∀ (d : D) (v : V), Rep K H m d v → Rep K H m' d v
  | .non, v, h => by simpa only [Rep] using h
  | .bl b, v, h => by simpa only [Rep] using h
  | .int i, v, h => by simpa only [Rep] using h
  | .str x, v, h => by simpa only [Rep] using h
  | .tup ds, v, h => by
    simp only [Rep] at h ⊢
    obtain ⟨a, vs, e, t, r⟩ := h
    exact ⟨a, vs, e, t, RepL.sub h1 h2 ds vs r⟩
  | .lst ds, v, h => by
    simp only [Rep] at h ⊢
    obtain ⟨a, vs, e, hn, t, r⟩ := h
    exact ⟨a, vs, e, ⟨by rw [h1]; exact hn.1, fun z => hn.2 (h2 a z)⟩, t, RepL.sub h1 h2 ds vs r⟩
  | .fz ds, v, h => by
    simp only [Rep] at h ⊢
    obtain ⟨a, vs, e, t, r⟩ := h
    refine ⟨a, vs, e, ?_, RepL.sub h1 h2 ds vs r⟩
    rcases t with ⟨hn, t⟩ | t
    · exact .inl ⟨by rw [h1]; exact hn, t⟩
    · exact .inr t
  | .ref n, v, h => by simp only [Rep, h1] at h ⊢; exact h
  | .adr a, v, h => by simpa only [Rep] using h
  | .ty n, v, h => by simpa only [Rep] using h
theorem RepL.sub (h1 : m'.at_ = m.at_) (h2 : ∀ a ∈ m'.hid, a ∈ m.hid) : ∀ (ds : List D) (vs : List V), RepL K H m ds vs → RepL K H m' ds vs
  | [], vs, h => by simpa only [RepL] using h
  | d :: ds, vs, h => by
    simp only [RepL] at h ⊢
    obtain ⟨v, r, e, k1, k2⟩ := h
    exact ⟨v, r, e, Rep.sub h1 h2 d v k1, RepL.sub h1 h2 ds r k2⟩
end
theorem Sim.sub {S : Sto} (s : Sim G H m S) (h1 : m'.at_ = m.at_) (h2 : ∀ a ∈ m'.hid, a ∈ m.hid) : Sim G H m' S := by
  refine ⟨by rw [h1]; exact s.len, by rw [h1]; exact s.nd, fun a ha => by rw [h1]; exact s.hid a (h2 a ha), fun n a o e1 e2 => ?_⟩
  rw [h1] at e1
  have r := s.at_ n a o e1 e2
  cases o with
  | lst ds => obtain ⟨vs, e, r⟩ := r; exact ⟨vs, e, r.sub h1 h2⟩
  | dS ds => obtain ⟨vs, e, r⟩ := r; exact ⟨vs, e, r.sub h1 h2⟩
  | dP ds =>
    obtain ⟨xs, vs, e, k1, k2, r, k3⟩ := r
    refine ⟨xs, vs, e, k1, k2, r.sub h1 h2, fun x hx => ?_⟩
    obtain ⟨hd, d, q1, q2⟩ := k3 x hx
    exact ⟨hd, d, q1, q2.sub h1 h2⟩
  | ins C ds => obtain ⟨dx, vs, e, r⟩ := r; exact ⟨dx, vs, e, r.sub h1 h2⟩
end
/-- the list of a comprehension is hidden while it grows -/
theorem Grow.hide {m : Mp} {H : Hp} {p : Addr} {o : HO} (h : H p = none) : Grow m H ⟨m.at_, p :: m.hid⟩ (upd H p o) :=
  ⟨⟨[], by simp, by simp⟩, ⟨[p], rfl, fun a ha => by rw [List.mem_singleton] at ha; rw [ha]; exact h⟩, (Grow.new (m := m) h).keep, (Grow.new (m := m) h).tups, (Grow.new (m := m) h).live⟩
theorem Sim.hide {G : W3} {H : Hp} {m : Mp} {S : Sto} (s : Sim G H m S) {p : Addr} {o : HO} (hp : H p = none) : Sim G (upd H p o) ⟨m.at_, p :: m.hid⟩ S := by
  refine ⟨s.len, s.nd, fun a ha => ?_, fun n a o' h1 h2 => RepO.mono (.hide hp) (fun u e => by rw [upd_ne (ne_of_none e hp)]; exact e) (s.at_ n a o' h1 h2)⟩
  rcases List.mem_cons.1 ha with rfl | ha
  · exact ⟨(s.notm hp).1, by rw [upd_same]; simp⟩
  · exact ⟨(s.hid a ha).1, (Grow.new (m := m) hp).live a (s.hid a ha).2⟩
theorem Grow.updHid {m1 m : Mp} {H1 H : Hp} {p : Addr} {xs ys : List V} (g : Grow m1 H1 m H) (hp : H1 p = none) (hH : H p = some (.lst xs)) : Grow m1 H1 m (upd H p (.lst ys)) :=
  ⟨g.pre, g.hid, fun a o e hn => by rw [upd_ne (ne_of_none e hp)]; exact g.keep a o e hn, fun a xs e => by rw [upd_ne (ne_of_none e hp)]; exact g.tups a xs e,
    fun a e => by
      by_cases z : a = p
      · subst z; rw [upd_same]; simp
      · rw [upd_ne z]; exact g.live a e⟩
section
variable {G : W3} {K : PySem.W.Frag} {H : Hp} {m m' : Mp} {p : Addr}
mutual
theorem Rep.toStore (hp : p ∈ m.hid) (hq : ∃ ws, H p = some (.lst ws)) (h1 : m'.at_ = m.at_ ++ [p]) (h2 : ∀ a ∈ m'.hid, a ∈ m.hid) : ∀ (d : D) (v : V), Rep K H m d v → Rep K H m' d v
  | .non, v, h => by simpa only [Rep] using h
  | .bl b, v, h => by simpa only [Rep] using h
  | .int i, v, h => by simpa only [Rep] using h
  | .str x, v, h => by simpa only [Rep] using h
  | .tup ds, v, h => by
    simp only [Rep] at h ⊢
    obtain ⟨a, vs, e, t, r⟩ := h
    exact ⟨a, vs, e, t, RepL.toStore hp hq h1 h2 ds vs r⟩
  | .lst ds, v, h => by
    simp only [Rep] at h ⊢
    obtain ⟨a, vs, e, hn, t, r⟩ := h
    refine ⟨a, vs, e, ⟨?_, fun z => hn.2 (h2 a z)⟩, t, RepL.toStore hp hq h1 h2 ds vs r⟩
    rw [h1, List.mem_append, List.mem_singleton]
    rintro (z | rfl)
    · exact hn.1 z
    · exact hn.2 hp
  | .fz ds, v, h => by
    simp only [Rep] at h ⊢
    obtain ⟨a, vs, e, t, r⟩ := h
    refine ⟨a, vs, e, ?_, RepL.toStore hp hq h1 h2 ds vs r⟩
    rcases t with ⟨hn, o, t⟩ | t
    · refine .inl ⟨?_, o, t⟩
      rw [h1, List.mem_append, List.mem_singleton]
      rintro (z | rfl)
      · exact hn z
      · obtain ⟨ws, q⟩ := hq
        rw [q] at t; cases t
    · exact .inr t
  | .ref n, v, h => by
    simp only [Rep] at h ⊢
    obtain ⟨a, e, q⟩ := h
    refine ⟨a, e, ?_⟩
    rw [h1, List.getElem?_append_left (List.getElem?_eq_some_iff.1 q).1]
    exact q
  | .adr a, v, h => by simpa only [Rep] using h
  | .ty n, v, h => by simpa only [Rep] using h
theorem RepL.toStore (hp : p ∈ m.hid) (hq : ∃ ws, H p = some (.lst ws)) (h1 : m'.at_ = m.at_ ++ [p]) (h2 : ∀ a ∈ m'.hid, a ∈ m.hid) : ∀ (ds : List D) (vs : List V), RepL K H m ds vs → RepL K H m' ds vs
  | [], vs, h => by simpa only [RepL] using h
  | d :: ds, vs, h => by
    simp only [RepL] at h ⊢
    obtain ⟨v, r, e, k1, k2⟩ := h
    exact ⟨v, r, e, Rep.toStore hp hq h1 h2 d v k1, RepL.toStore hp hq h1 h2 ds r k2⟩
end
theorem RepO.toStore (hp : p ∈ m.hid) (hq : ∃ ws, H p = some (.lst ws)) (h1 : m'.at_ = m.at_ ++ [p]) (h2 : ∀ a ∈ m'.hid, a ∈ m.hid) {a : Addr} {o : O} (r : RepO G H m a o) : RepO G H m' a o := by
  cases o with
  | lst ds => obtain ⟨vs, e, r⟩ := r; exact ⟨vs, e, r.toStore hp hq h1 h2⟩
  | dS ds => obtain ⟨vs, e, r⟩ := r; exact ⟨vs, e, r.toStore hp hq h1 h2⟩
  | dP ds =>
    obtain ⟨xs, vs, e, k1, k2, r, k3⟩ := r
    refine ⟨xs, vs, e, k1, k2, r.toStore hp hq h1 h2, fun x hx => ?_⟩
    obtain ⟨hd, d, q1, q2⟩ := k3 x hx
    exact ⟨hd, d, q1, q2.toStore hp hq h1 h2⟩
  | ins C ds => obtain ⟨dx, vs, e, r⟩ := r; exact ⟨dx, vs, e, r.toStore hp hq h1 h2⟩
end
theorem Sim.toStore {G : W3} {H : Hp} {m2 m1 : Mp} {S : Sto} {p : Addr} {xs : List D} {ws : List V} (s : Sim G H m2 S) (hp : p ∈ m2.hid) (hsub : ∀ a ∈ m1.hid, a ∈ m2.hid) (hn : p ∉ m1.hid) (hH : H p = some (.lst ws)) (r : RepL G.K H m2 xs ws) :
    Sim G H ⟨m2.at_ ++ [p], m1.hid⟩ (S ++ [.lst xs]) := by
  have hpa := (s.hid p hp).1
  refine ⟨by simp [s.len], ?_, fun a ha => ⟨fun hm => ?_, (s.hid a (hsub a ha)).2⟩, fun n a o e1 e2 => ?_⟩
  · show (m2.at_ ++ [p]).Nodup
    rw [List.nodup_append]
    exact ⟨s.nd, by simp, fun a ha b hb => by rw [List.mem_singleton] at hb; subst hb; exact fun e => hpa (e ▸ ha)⟩
  · rcases List.mem_append.1 hm with h | h
    · exact (s.hid a (hsub a ha)).1 h
    · rw [List.mem_singleton.1 h] at ha; exact hn ha
  · have e1 : (m2.at_ ++ [p])[n]? = some a := e1
    by_cases hl : n < m2.at_.length
    · rw [List.getElem?_append_left hl] at e1
      rw [List.getElem?_append_left (s.len ▸ hl)] at e2
      exact (s.at_ n a o e1 e2).toStore (m' := ⟨m2.at_ ++ [p], m1.hid⟩) hp ⟨ws, hH⟩ rfl hsub
    · rw [List.getElem?_append_right (by omega)] at e1
      have hn' : n = m2.at_.length := by
        have := (List.getElem?_eq_some_iff.1 e1).1
        simp at this; omega
      subst hn'
      rw [List.getElem?_append_right (by rw [s.len]; omega)] at e2
      simp at e1
      rw [show m2.at_.length - S.length = 0 by rw [s.len]; omega] at e2
      simp at e2
      subst e1; subst e2
      exact ⟨ws, hH, RepL.toStore (m' := ⟨m2.at_ ++ [p], m1.hid⟩) hp ⟨ws, hH⟩ rfl hsub _ _ r⟩
abbrev EF : WX := fun _ _ _ _ => False
section
variable {X : Cx} {E : WX} {tg : Expr}
/-- what a clause's test is -/
def STs (X : Cx) (E : WX) (ifs : List Expr) (f : MT) : Prop := PTs X ifs (tT (g3 X) X.mg E f)
theorem pts_imp {X : Cx} {e : List Expr} {t t' : TT} (h : PTs X e t) (w : ∀ σ H Q, t' σ H Q → t σ H Q) : PTs X e t' := ⟨fun pins s σ H Q I q => h.run pins s σ H Q I (w σ H Q q)⟩
theorem sts_nil : STs X E [] tTrue := pts_imp pts_nil fun σ H Q h => by
  obtain ⟨m, fr, S, at_, h⟩ := h
  exact h m true H (.refl _ _) at_.s rfl
theorem sts_one {c : Expr} {f : MT} (h : ST X E c f) : STs X E [c] f := pts_one h
theorem comp_of {fi : MI} {g : MG} {c : MT} {e : ME} {sl vs : List Nat} (hsl : ∀ i ∈ sl, i ∈ vs) {σ : L2.St} {H : Hp} {Q : VK} {f : List D → Sto → Res D} {m0 : Mp} {fr : Fr} {S0 : Sto} (a0 : At (g3 X) H m0 σ fr S0)
    (h : POk (RD (g3 X)) (g3 X) X.mg E σ m0 H Q ((fi fr S0).bind fun it S => (compL it g c e (wipeF fr vs) it.items S []).bind f))
    (hf : ∀ (m1 : Mp) (H1 : Hp) xs S2 m2 H2 Dl ws, H1 Dl = none → Dl ∉ m1.hid → Grow m1 H1 m2 H2 → Dl ∈ m2.hid → (∀ a ∈ m1.hid, a ∈ m2.hid) → Sim (g3 X) H2 m2 S2 → H2 Dl = some (.lst ws) → RepL X.K H2 m2 xs ws → POk (RD (g3 X)) (g3 X) X.mg E σ m1 H1 Q (f xs S2) → Q (.ref Dl) H2) :
    tLc (tI (g3 X) X.mg E fi) (tG (g3 X) sl g) (tT (g3 X) X.mg EF c) (tE (g3 X) X.mg EF e) vs σ H Q := by
  refine ⟨m0, fr, S0, a0, ?_⟩
  cases e0 : fi fr S0 with
  | bad => rw [e0] at h; exact h
  | exc k S => rw [e0] at h; exact h
  | ok it S1 =>
    rw [e0] at h
    intro m1 H1 J g1 s1 w Dl hDl
    have h := POk.mono g1 h
    have f1 : SimF X.K H1 m1 σ fr := a0.f.mono g1
    refine ⟨fun i k H' => i + k = it.items.length ∧ ∃ m' S' acc ws, Grow m1 H1 m' H' ∧ Dl ∈ m'.hid ∧ Sim (g3 X) H' m' S' ∧ H' Dl = some (.lst ws) ∧ RepL X.K H' m' acc ws ∧
      POk (RD (g3 X)) (g3 X) X.mg E σ m1 H1 Q ((compL it g c e (wipeF fr vs) (it.items.drop i) S' acc).bind f), ⟨it.items.length, by omega, ⟨m1.at_, Dl :: m1.hid⟩, S1, [], [], .hide hDl, by simp, s1.hide hDl, upd_same, .nil, by simpa using h⟩, ?_⟩
    rintro i k H' ⟨hik, m', S', acc, ws, g', hD', s', hH', r', p'⟩
    have hsub : ∀ a ∈ m1.hid, a ∈ m'.hid := fun a ha => by
      obtain ⟨hx, q, _⟩ := g'.hid
      rw [q]; exact List.mem_append_right _ ha
    by_cases hi : i < it.items.length
    · right
      rw [List.drop_eq_getElem_cons hi] at p'
      unfold compL at p'
      by_cases ho : okG it S' ∧ acc.length < sz
      · rw [if_pos ho] at p'
        refine ⟨w.go i m' H' S' g' s' ho.1 hi, fun H3 => ∃ m3 S3 acc3 ws3, Grow m1 H1 m3 H3 ∧ Dl ∈ m3.hid ∧ Sim (g3 X) H3 m3 S3 ∧ H3 Dl = some (.lst ws3) ∧ RepL X.K H3 m3 acc3 ws3 ∧
          POk (RD (g3 X)) (g3 X) X.mg E σ m1 H1 Q ((compL it g c e (wipeF fr vs) (it.items.drop (i + 1)) S3 acc3).bind f), ?_, ?_⟩
        · rintro H3 ⟨m3, S3, acc3, ws3, q⟩
          exact ⟨k - 1, by omega, by omega, m3, S3, acc3, ws3, q⟩
        · intro x H2 hy
          obtain ⟨g2, s2, d, ed, rd⟩ := w.yld i m' H' S' x H2 g' s' ho.1 hi hy
          have ed' : it.items[i] = d := by rw [List.getElem?_eq_getElem hi] at ed; exact Option.some.inj ed
          rw [ed'] at p'
          have hDm : Dl ∉ m'.at_ := (s'.hid Dl hD').1
          have hH2 : H2 Dl = some (.lst ws) := g2.keep _ _ hH' hDm
          have r2 : RepL X.K H2 m' acc ws := r'.mono g2
          have gg := g'.trans g2
          have f2 : SimF X.K H2 m' (L2.wipe σ vs) (wipeF fr vs) := (f1.mono gg).wipe vs
          cases e1 : g d (wipeF fr vs) with
          | none => simp only [e1] at p'; exact p'.elim
          | some fr1 =>
            simp only [e1] at p'
            refine ⟨m', wipeF fr vs, d, fr1, f2, rd, e1, fun σ3 s3 l3 k3 => ⟨wipe_eq (by rw [l3, wipe_length]) hsl k3, m', fr1, S', ⟨s3, s2⟩, ?_⟩⟩
            cases ec : c fr1 S' with
            | bad => simp only [ec] at p'; exact p'.elim
            | exc cc S4 => simp only [ec] at p'; exact p'.elim
            | ok b S4 =>
              intro m4 b' H4 g4 s4 eb
              subst eb
              have gg4 := gg.trans g4
              have hD4 : Dl ∈ m4.hid := by
                obtain ⟨hx, q, _⟩ := g4.hid
                rw [q]; exact List.mem_append_right _ hD'
              have hH4 : H4 Dl = some (.lst ws) := g4.keep _ _ hH2 hDm
              have r4 : RepL X.K H4 m4 acc ws := r2.mono g4
              cases b' with
              | false =>
                simp only [ec] at p'
                exact ⟨m4, S4, acc, ws, gg4, hD4, s4, hH4, r4, p'⟩
              | true =>
                simp only [ec] at p'
                refine ⟨m4, fr1, S4, ⟨s3.mono g4, s4⟩, ?_⟩
                cases ee : e fr1 S4 with
                | bad => simp only [ee] at p'; exact p'.elim
                | exc cc S5 => simp only [ee] at p'; exact p'.elim
                | ok y S5 =>
                  simp only [ee] at p'
                  intro m5 v5 H5 g5 s5 ry
                  have hDm4 : Dl ∉ m4.at_ := (s4.hid Dl hD4).1
                  have hH5 : H5 Dl = some (.lst ws) := g5.keep _ _ hH4 hDm4
                  have hD5 : Dl ∈ m5.hid := by
                    obtain ⟨hx, q, _⟩ := g5.hid
                    rw [q]; exact List.mem_append_right _ hD4
                  refine ⟨ws, hH5, by rw [r4.length]; exact sz_lt ho.2, m5, S5, acc ++ [y], ws ++ [v5], (gg4.trans g5).updHid hDl hH5, hD5, s5.hidUpd hD5 hH5, upd_same, ?_, p'⟩
                  exact RepL.append ((r4.mono g5).hidUpd hD5 hH5) (.one (ry.hidUpd hD5 hH5))
      · rw [if_neg ho] at p'; exact p'.elim
    · left
      have hil : i = it.items.length := by omega
      rw [hil, List.drop_length] at p'
      unfold compL at p'
      by_cases ho : okG it S'
      · rw [if_pos ho] at p'
        rw [hil]
        exact ⟨w.stop m' H' S' g' s' ho, hf m1 H1 acc S' m' H' Dl ws hDl (s1.notm hDl).2 g' hD' hsub s' hH' r' p'⟩
      · rw [if_neg ho] at p'; exact p'.elim
theorem Grow.unhide {m1 m2 : Mp} {H1 H2 : Hp} (g : Grow m1 H1 m2 H2) : Grow m1 H1 ⟨m2.at_, m1.hid⟩ H2 := ⟨g.pre, ⟨[], by simp, by simp⟩, g.keep, g.tups, g.live⟩
theorem comp_val {fi : MI} {g : MG} {c : MT} {e : ME} {sl vs : List Nat} (hsl : ∀ i ∈ sl, i ∈ vs) {σ : L2.St} {H : Hp} {Q : VK} (h : tE (g3 X) X.mg E (eComp vs fi g c e) σ H Q) :
    tLc (tI (g3 X) X.mg E fi) (tG (g3 X) sl g) (tT (g3 X) X.mg EF c) (tE (g3 X) X.mg EF e) vs σ H Q := by
  obtain ⟨m, fr, S, at_, h⟩ := h
  refine comp_of hsl at_ h fun m1 H1 xs S2 m2 H2 Dl ws hDl hn1 g hD hsub s hH r p => ?_
  refine p ⟨m2.at_, m1.hid⟩ (.ref Dl) H2 g.unhide (s.sub rfl hsub) ?_
  simp only [RD, Rep]
  exact ⟨Dl, ws, rfl, ⟨(s.hid Dl hD).1, hn1⟩, hH, RepL.sub (m := m2) (m' := ⟨m2.at_, m1.hid⟩) rfl hsub _ _ r⟩
/-! a hidden list goes to the store -/
theorem comp_new {fi : MI} {g : MG} {c : MT} {e : ME} {sl vs : List Nat} (hsl : ∀ i ∈ sl, i ∈ vs) {σ : L2.St} {H : Hp} {Q : VK} (h : tE (g3 X) X.mg E (eNewComp vs fi g c e) σ H Q) :
    tLc (tI (g3 X) X.mg E fi) (tG (g3 X) sl g) (tT (g3 X) X.mg EF c) (tE (g3 X) X.mg EF e) vs σ H Q := by
  obtain ⟨m, fr, S, at_, h⟩ := h
  refine comp_of hsl at_ h fun m1 H1 xs S2 m2 H2 Dl ws hDl hn1 g hD hsub s hH r p => ?_
  have m3h : ∀ a ∈ (⟨m2.at_ ++ [Dl], m1.hid⟩ : Mp).hid, a ∈ m2.hid := hsub
  have hDa := (s.hid Dl hD).1
  obtain ⟨ex, q, fx⟩ := g.pre
  have g2 : Grow m1 H1 ⟨m2.at_ ++ [Dl], m1.hid⟩ H2 := ⟨⟨ex ++ [Dl], by rw [q]; simp, fun a ha => by
    rcases List.mem_append.1 ha with z | z
    · exact fx a z
    · rw [List.mem_singleton.1 z]; exact hDl⟩, ⟨[], by simp, by simp⟩, g.keep, g.tups, g.live⟩
  refine p ⟨m2.at_ ++ [Dl], m1.hid⟩ (.ref Dl) H2 g2 (Sim.toStore s hD hsub hn1 hH r) ?_
  simp only [RD, Rep]
  exact ⟨Dl, rfl, by rw [List.getElem?_append_right (by rw [s.len]; omega)]; simp [s.len]⟩
/-- as a value -/
theorem se_lc {elt iter : Expr} {ifs : List Expr} {scope : Scope} {own : List (Str × Nat)} {pos : Pos} {fi : MI} {g : MG} {sl : List Nat} {c : MT} {e : ME} (hc : X.calm = true) (hN : X.N.Nodup) (hi : SI X E tg iter fi) (ok : BlkOk X.N X.env.scope scope own) (hsl : ∀ i ∈ sl, i ∈ own.map (·.2))
    (hg : ∀ (s : Shared) (H : Hp) (C : Addr) (cl : List (Str × Addr)) (fp : List Addr), SG (X.blk s H scope (compEnvC scope cl C X.env) fp) sl tg g) (ht : ∀ (s : Shared) (H : Hp) (C : Addr) (cl : List (Str × Addr)) (fp : List Addr), STs (X.blk s H scope (compEnvC scope cl C X.env) fp) EF ifs c)
    (he : ∀ (s : Shared) (H : Hp) (C : Addr) (cl : List (Str × Addr)) (fp : List Addr), SE (X.blk s H scope (compEnvC scope cl C X.env) fp) EF elt e) (hs : ∀ x, foldedSetIterable iter X.env x = pure x := by intro _; rfl) :
    SE X E (.ListComp elt [⟨tg, iter, ifs, 0⟩] scope pos) (eComp (own.map (·.2)) fi g c e) := pe_imp (pe_lc (g := tG (g3 X) sl g) (tt := tT (g3 X) X.mg EF c) (te := tE (g3 X) X.mg EF e) hc hN hi ok hg ht he hs) fun σ H Q h => comp_val hsl h
theorem se_lcNew {elt iter : Expr} {ifs : List Expr} {scope : Scope} {own : List (Str × Nat)} {pos : Pos} {fi : MI} {g : MG} {sl : List Nat} {c : MT} {e : ME} (hc : X.calm = true) (hN : X.N.Nodup) (hi : SI X E tg iter fi) (ok : BlkOk X.N X.env.scope scope own) (hsl : ∀ i ∈ sl, i ∈ own.map (·.2))
    (hg : ∀ (s : Shared) (H : Hp) (C : Addr) (cl : List (Str × Addr)) (fp : List Addr), SG (X.blk s H scope (compEnvC scope cl C X.env) fp) sl tg g) (ht : ∀ (s : Shared) (H : Hp) (C : Addr) (cl : List (Str × Addr)) (fp : List Addr), STs (X.blk s H scope (compEnvC scope cl C X.env) fp) EF ifs c)
    (he : ∀ (s : Shared) (H : Hp) (C : Addr) (cl : List (Str × Addr)) (fp : List Addr), SE (X.blk s H scope (compEnvC scope cl C X.env) fp) EF elt e) (hs : ∀ x, foldedSetIterable iter X.env x = pure x := by intro _; rfl) :
    SE X E (.ListComp elt [⟨tg, iter, ifs, 0⟩] scope pos) (eNewComp (own.map (·.2)) fi g c e) := pe_imp (pe_lc (g := tG (g3 X) sl g) (tt := tT (g3 X) X.mg EF c) (te := tE (g3 X) X.mg EF e) hc hN hi ok hg ht he hs) fun σ H Q h => comp_new hsl h
/-- name = [..] on one line -/
theorem asg_of {f : ME} {t : TE} {i : Nat} (ht : ∀ σ H Q, tE (g3 X) X.mg E f σ H Q → t σ H Q) {Dn : Ends} {σ : L2.St} {H : Hp} (h : tS (g3 X) X.mg E (sSet i f) Dn σ H) : tAsg t (gName i) Dn σ H := by
  obtain ⟨m, fr, S, at_, h⟩ := h
  refine ht σ H _ ⟨m, fr, S, at_, PSt.then h fun x S1 m1 v H1 e g s r p => ?_⟩
  exact p m1 _ H1 (.refl _ _) ⟨(at_.f.mono g).set i r, s⟩
theorem ss_setLc {i : Nat} {y : Str} {py : Pos} {elt iter : Expr} {ifs : List Expr} {scope : Scope} {own : List (Str × Nat)} {pos spos : Pos} {fi : MI} {g : MG} {sl : List Nat} {c : MT} {e : ME} (hc : X.calm = true) (hN : X.N.Nodup) (hy : X.N[i]? = some y) (hyl : X.env.scope.names.lookup y = some .local)
    (hsw : swapsWith (.ListComp elt [⟨tg, iter, ifs, 0⟩] scope pos) (some (.Name y py)) spos.line X.env = pure true) (hi : SI X E tg iter fi) (ok : BlkOk X.N X.env.scope scope own) (hsl : ∀ i ∈ sl, i ∈ own.map (·.2))
    (hg : ∀ (s : Shared) (H : Hp) (C : Addr) (cl : List (Str × Addr)) (fp : List Addr), SG (X.blk s H scope (compEnvC scope cl C X.env) fp) sl tg g) (ht : ∀ (s : Shared) (H : Hp) (C : Addr) (cl : List (Str × Addr)) (fp : List Addr), STs (X.blk s H scope (compEnvC scope cl C X.env) fp) EF ifs c)
    (he : ∀ (s : Shared) (H : Hp) (C : Addr) (cl : List (Str × Addr)) (fp : List Addr), SE (X.blk s H scope (compEnvC scope cl C X.env) fp) EF elt e) (hs : ∀ x, foldedSetIterable iter X.env x = pure x := by intro _; rfl) :
    SS X E (.Assign [.Name y py] (.ListComp elt [⟨tg, iter, ifs, 0⟩] scope pos) spos) (sSet i (eComp (own.map (·.2)) fi g c e)) :=
  ps_imp (ps_setLc (g := tG (g3 X) sl g) (tt := tT (g3 X) X.mg EF c) (te := tE (g3 X) X.mg EF e) hc hN hy hyl hsw hi ok hg ht he hs) fun Dn σ H h => asg_of (fun _ _ _ h => comp_val hsl h) h
theorem ss_setLcNew {i : Nat} {y : Str} {py : Pos} {elt iter : Expr} {ifs : List Expr} {scope : Scope} {own : List (Str × Nat)} {pos spos : Pos} {fi : MI} {g : MG} {sl : List Nat} {c : MT} {e : ME} (hc : X.calm = true) (hN : X.N.Nodup) (hy : X.N[i]? = some y) (hyl : X.env.scope.names.lookup y = some .local)
    (hsw : swapsWith (.ListComp elt [⟨tg, iter, ifs, 0⟩] scope pos) (some (.Name y py)) spos.line X.env = pure true) (hi : SI X E tg iter fi) (ok : BlkOk X.N X.env.scope scope own) (hsl : ∀ i ∈ sl, i ∈ own.map (·.2))
    (hg : ∀ (s : Shared) (H : Hp) (C : Addr) (cl : List (Str × Addr)) (fp : List Addr), SG (X.blk s H scope (compEnvC scope cl C X.env) fp) sl tg g) (ht : ∀ (s : Shared) (H : Hp) (C : Addr) (cl : List (Str × Addr)) (fp : List Addr), STs (X.blk s H scope (compEnvC scope cl C X.env) fp) EF ifs c)
    (he : ∀ (s : Shared) (H : Hp) (C : Addr) (cl : List (Str × Addr)) (fp : List Addr), SE (X.blk s H scope (compEnvC scope cl C X.env) fp) EF elt e) (hs : ∀ x, foldedSetIterable iter X.env x = pure x := by intro _; rfl) :
    SS X E (.Assign [.Name y py] (.ListComp elt [⟨tg, iter, ifs, 0⟩] scope pos) spos) (sSet i (eNewComp (own.map (·.2)) fi g c e)) :=
  ps_imp (ps_setLc (g := tG (g3 X) sl g) (tt := tT (g3 X) X.mg EF c) (te := tE (g3 X) X.mg EF e) hc hN hy hyl hsw hi ok hg ht he hs) fun Dn σ H h => asg_of (fun _ _ _ h => comp_new hsl h) h
end
end Py
set_option maxRecDepth 100000
set_option maxHeartbeats 1000000
namespace Py
open PySem PySem.Spec PyProof.Rows L2

/-! ### sequences -/
def lstOf (S : Sto) : D → Option (List D)
  | .lst ds => some ds
  | .ref n => (match S[n]? with | some (.lst ds) => some ds | _ => none)
  | _ => none
theorem lst_at {G : W3} {H : Hp} {m : Mp} {S : Sto} {d : D} {v : V} {ds : List D} (s : Sim G H m S) (r : Rep G.K H m d v) (e : lstOf S d = some ds) : ∃ a vs, v = .ref a ∧ H a = some (.lst vs) ∧ RepL G.K H m ds vs := by
  cases d with
  | lst xs =>
    cases e
    simp only [Rep] at r
    obtain ⟨a, vs, ev, hn, t, r⟩ := r
    exact ⟨a, vs, ev, t, r⟩
  | ref n =>
    simp only [lstOf] at e
    split at e
    · rename_i xs hS
      cases e
      simp only [Rep] at r
      obtain ⟨a, ev, ha⟩ := r
      obtain ⟨vs, h1, r1⟩ := s.lst ha hS
      exact ⟨a, vs, ev, h1, r1⟩
    · cases e
  | _ => cases e
/-- a list (locked ones too) or a tuple -/
def seqOf (S : Sto) : D → Option (List D)
  | .tup ds => some ds
  | .fz ds => some ds
  | d => lstOf S d
theorem seq_at {G : W3} {H : Hp} {m : Mp} {S : Sto} {d : D} {v : V} {ds : List D} (s : Sim G H m S) (r : Rep G.K H m d v) (e : seqOf S d = some ds) : ∃ a vs, v = .ref a ∧ (SqL G.K H a vs ∨ SqT G.K H a vs) ∧ RepL G.K H m ds vs := by
  by_cases h : lstOf S d = some ds
  · obtain ⟨a, vs, e1, e2, r⟩ := lst_at s r h
    exact ⟨a, vs, e1, .inl (.of e2), r⟩
  · cases d with
    | tup xs =>
      cases e
      simp only [Rep] at r
      obtain ⟨a, vs, ev, t, r⟩ := r
      exact ⟨a, vs, ev, .inr t.sq, r⟩
    | fz xs =>
      cases e
      simp only [Rep] at r
      obtain ⟨a, vs, ev, t, r⟩ := r
      exact ⟨a, vs, ev, .inl t.sq, r⟩
    | lst xs => exact absurd e h
    | ref n => exact absurd e h
    | _ => cases e
theorem RepL.atI {K : PySem.W.Frag} {H : Hp} {m : Mp} {ds : List D} {vs : List V} {i : Int} {d : D} (r : RepL K H m ds vs) (h : L2.atI ds i = some d) : ∃ v, L2.atI vs i = some v ∧ Rep K H m d v := by
  unfold L2.atI at h ⊢
  rw [r.length]
  cases e : ixN ds.length i with
  | none => rw [e] at h; cases h
  | some j =>
    rw [e] at h
    obtain ⟨v, e1, r1⟩ := r.get (show ds[j]? = some d from h)
    exact ⟨v, e1, r1⟩
/-! ### + -/
def addL (xs ys : Option (List D)) (S : Sto) : Res D := match xs, ys with
  | some xs, some ys => if xs.length + ys.length ≤ sz then .ok (.lst (xs ++ ys)) S else .bad
  | _, _ => .bad
def addD : D → D → Sto → Res D
  | .int i, .int j, S => .ok (.int (i + j)) S
  | .str a, .str b, S => if a.length + b.length ≤ sz then .ok (.str (a ++ b)) S else .bad
  | .tup xs, .tup ys, S => if xs.length + ys.length ≤ sz then .ok (.tup (xs ++ ys)) S else .bad
  | .lst xs, y, S => addL (some xs) (lstOf S y) S
  | .ref n, y, S => addL (lstOf S (.ref n)) (lstOf S y) S
  | _, _, _ => .bad
section
variable {X : Cx}
def rAddA (K : PySem.W.Frag) : R2 := fun x y H Q => rI0 (fun i j => .int (i + j)) x y H Q ∨ (∃ i j, x = .str i ∧ y = .str j ∧ i.length + j.length ≤ sizeLine ∧ Q (.str (i ++ j)) H) ∨ rCatA K x y H Q ∨ rCat x y H Q
theorem op_addA : OpR X (binaryOp .Add) (rAddA X.K) := op_add.or (op_add_str.or (op_catA.or op_cat))
theorem add_lists {G : W3} {mg : Str → Option Value} {E : WX} {σ : L2.St} {m : Mp} {H : Hp} {S : Sto} {x y : D} {v u : V} {Q : VK} (s : Sim G H m S) (rx : Rep G.K H m x v) (ry : Rep G.K H m y u) (p : POk (RD G) G mg E σ m H Q (addL (lstOf S x) (lstOf S y) S)) : rCat v u H Q := by
  unfold addL at p
  split at p
  · rename_i xs ys e1 e2
    split at p
    · rename_i hl
      obtain ⟨a, vs, rfl, h1, r1⟩ := lst_at s rx e1
      obtain ⟨b, us, rfl, h2, r2⟩ := lst_at s ry e2
      refine ⟨a, b, vs, us, rfl, rfl, h1, h2, by rw [r1.length, r2.length]; exact sz_ok hl, fun q hq => ?_⟩
      exact p m _ _ (.new hq) (s.new hq) (.newLst s hq (r1.append r2))
    · exact p.elim
  · exact p.elim
theorem o_add : Op2 (g3 X) X.mg (rAddA X.K) addD := by
  intro E σ m H S x y v u Q s rx ry p
  unfold addD at p
  split at p
  · simp only [Rep] at rx ry
    exact .inl ⟨_, _, rx, ry, p m _ H (.refl _ _) s (by simp only [RD, Rep])⟩
  · simp only [Rep] at rx ry
    split at p
    · rename_i hl
      exact .inr (.inl ⟨_, _, rx, ry, sz_ok hl, p m _ H (.refl _ _) s (by simp only [RD, Rep])⟩)
    · exact p.elim
  · rename_i xs ys
    split at p
    · rename_i hl
      have rx0 := rx
      have ry0 := ry
      simp only [Rep] at rx ry
      obtain ⟨a, vs, rfl, t1, r1⟩ := rx
      obtain ⟨b, us, rfl, t2, r2⟩ := ry
      refine .inr (.inr (.inl ⟨a, b, vs, us, rfl, rfl, t1.sq, t2.sq, by rw [r1.length, r2.length]; exact sz_ok hl, fun e => ?_, fun _ e => ?_, fun _ _ q hq => ?_⟩))
      · have : xs = [] := List.length_eq_zero_iff.1 (by rw [← r1.length, e]; rfl)
        subst this
        exact p m _ H (.refl _ _) s ry0
      · have : ys = [] := List.length_eq_zero_iff.1 (by rw [← r2.length, e]; rfl)
        subst this
        rw [List.append_nil] at p
        exact p m _ H (.refl _ _) s rx0
      · exact p m _ _ (.new hq) (s.new hq) (.newTup hq (r1.append r2))
    · exact p.elim
  · rename_i xs
    exact .inr (.inr (.inr (add_lists s (x := .lst xs) rx ry p)))
  · exact .inr (.inr (.inr (add_lists s rx ry p)))
  · exact p.elim
/-! ### -, *, //, %, unary - -/
def subD : D → D → Sto → Res D
  | .int i, .int j, S => .ok (.int (i - j)) S
  | _, _, _ => .bad
theorem o_sub : Op2 (g3 X) X.mg (rI0 fun i j => .int (i - j)) subD := by
  intro E σ m H S x y v u Q s rx ry p
  unfold subD at p
  split at p
  · simp only [Rep] at rx ry
    exact ⟨_, _, rx, ry, p m _ H (.refl _ _) s (by simp only [RD, Rep])⟩
  · exact p.elim
open Classical in
noncomputable def fdivD : D → D → Sto → Res D
  | .int i, .int j, S => if 0 < j ∧ j < 1073741824 then .ok (.int (i / j)) S else .bad
  | _, _, _ => .bad
theorem o_fdiv : Op2 (g3 X) X.mg (rI CDiv fun i j => .int (i / j)) fdivD := by
  intro E σ m H S x y v u Q s rx ry p
  unfold fdivD at p
  split at p
  · simp only [Rep] at rx ry
    split at p
    · rename_i h
      exact ⟨_, _, rx, ry, h, p m _ H (.refl _ _) s (by simp only [RD, Rep])⟩
    · exact p.elim
  · exact p.elim
open Classical in
noncomputable def modD : D → D → Sto → Res D
  | .int i, .int j, S => if 0 < j then .ok (.int (i % j)) S else .bad
  | _, _, _ => .bad
theorem o_mod : Op2 (g3 X) X.mg (rI (fun _ j => 0 < j) fun i j => .int (i % j)) modD := by
  intro E σ m H S x y v u Q s rx ry p
  unfold modD at p
  split at p
  · simp only [Rep] at rx ry
    split at p
    · rename_i h
      exact ⟨_, _, rx, ry, h, p m _ H (.refl _ _) s (by simp only [RD, Rep])⟩
    · exact p.elim
  · exact p.elim
def negD : D → Sto → Res D
  | .int i, S => .ok (.int (-i)) S
  | _, _ => .bad
theorem o_neg : Op1 (g3 X) X.mg (rU fun i => .int (-i)) negD := by
  intro E σ m H S x v Q s rx p
  unfold negD at p
  split at p
  · simp only [Rep] at rx
    exact ⟨_, rx, p m _ H (.refl _ _) s (by simp only [RD, Rep])⟩
  · exact p.elim
/-! ### comparisons -/
def cmpI (f : Int → Int → Bool) (g : List Nat → List Nat → Bool) : D → D → Sto → Res D
  | .int i, .int j, S => .ok (.bl (f i j)) S
  | .str a, .str b, S => .ok (.bl (g a.cps.toList b.cps.toList)) S
  | _, _, _ => .bad
theorem o_cmpI {f : Int → Int → Bool} {g : List Nat → List Nat → Bool} : Op2 (g3 X) X.mg (fun x y H Q => rI0 (fun i j => .bl (f i j)) x y H Q ∨ ∃ i j, x = .str i ∧ y = .str j ∧ Q (.bl (g i.cps.toList j.cps.toList)) H) (cmpI f g) := by
  intro E σ m H S x y v u Q s rx ry p
  unfold cmpI at p
  split at p
  · simp only [Rep] at rx ry
    exact .inl ⟨_, _, rx, ry, p m _ H (.refl _ _) s (by simp only [RD, Rep])⟩
  · simp only [Rep] at rx ry
    exact .inr ⟨_, _, rx, ry, p m _ H (.refl _ _) s (by simp only [RD, Rep])⟩
  · exact p.elim
abbrev ltD : D → D → Sto → Res D := cmpI (fun i j => decide (i < j)) (fun a b => decide (a < b))
abbrev leD : D → D → Sto → Res D := cmpI (fun i j => decide (i ≤ j)) (fun a b => !decide (b < a))
abbrev gtD : D → D → Sto → Res D := cmpI (fun i j => decide (j < i)) (fun a b => decide (b < a))
abbrev geD : D → D → Sto → Res D := cmpI (fun i j => decide (j ≤ i)) (fun a b => !decide (a < b))
theorem op_ltA : OpR X (compareOp .Lt) (fun x y H Q => rI0 (fun i j => .bl (decide (i < j))) x y H Q ∨ ∃ i j, x = .str i ∧ y = .str j ∧ Q (.bl (decide (i.cps.toList < j.cps.toList))) H) := op_lt.or op_lt_str
/-- is None -/
def isnD (neg : Bool) : D → D → Sto → Res D
  | .non, .non, S => .ok (.bl (!neg)) S
  | .adr _, .non, _ => .bad
  | _, .non, S => .ok (.bl neg) S
  | _, _, _ => .bad
theorem rep_non {K : PySem.W.Frag} {H : Hp} {m : Mp} {d : D} (r : Rep K H m d .non) : d = .non := by
  cases d with
  | non => rfl
  | tup ds => simp only [Rep] at r; obtain ⟨_, _, h, _⟩ := r; cases h
  | lst ds => simp only [Rep] at r; obtain ⟨_, _, h, _⟩ := r; cases h
  | fz ds => simp only [Rep] at r; obtain ⟨_, _, h, _⟩ := r; cases h
  | ref n => simp only [Rep] at r; obtain ⟨_, h, _⟩ := r; cases h
  | _ => simp only [Rep] at r; cases r
theorem o_isn {neg : Bool} : Op2 (g3 X) X.mg (fun x y H Q => y = .non ∧ Q (.bl (if neg then !decide (x = .non) else decide (x = .non))) H) (isnD neg) := by
  intro E σ m H S x y v u Q s rx ry p
  unfold isnD at p
  split at p
  · simp only [Rep] at rx ry
    subst rx
    refine ⟨ry, p m _ H (.refl _ _) s ?_⟩
    cases neg <;> simp [RD, Rep]
  · exact p.elim
  · rename_i hx _
    have hv : v ≠ .non := fun e => by subst e; exact hx (rep_non rx)
    simp only [Rep] at ry
    refine ⟨ry, p m _ H (.refl _ _) s ?_⟩
    cases neg <;> simp [RD, Rep, hv]
  · exact p.elim
/-! ### == of data -/
def toPs (f : D → Option PyData) : List D → Option (List PyData)
  | [] => some []
  | d :: ds => match f d, toPs f ds with | some p, some ps => some (p :: ps) | _, _ => none
def toP : Nat → Sto → D → Option PyData
  | 0, _, _ => none
  | n + 1, S, .non => some .none
  | n + 1, S, .bl b => some (.bool b)
  | n + 1, S, .int i => some (.int i)
  | n + 1, S, .str x => if PyData.strOk x then some (.str x) else none
  | n + 1, S, .tup ds => (toPs (toP n S) ds).map .tuple
  | n + 1, S, .lst ds => (toPs (toP n S) ds).map .list
  | n + 1, S, .fz ds => (toPs (toP n S) ds).map .list
  | n + 1, S, .ref k => (match S[k]? with | some (.lst ds) => (toPs (toP n S) ds).map .list | _ => none)
  | n + 1, S, .adr _ => none
  | n + 1, S, .ty _ => none
theorem toPs_dp {G : W3} {H : Hp} {m : Mp} {f : D → Option PyData} {n : Nat} (hf : ∀ d v p, Rep G.K H m d v → f d = some p → Dp G.K H v p ∧ p.canLay0 = true ∧ p.depth ≤ n) :
    ∀ (ds : List D) (vs : List V) (ps : List PyData), RepL G.K H m ds vs → toPs f ds = some ps → DpAll G.K H vs ps ∧ PyData.canLayAll0 ps = true ∧ PyData.depthAll ps ≤ n
  | [], vs, ps, r, e => by
    simp only [RepL] at r
    subst r
    cases e
    exact ⟨.nil, by simp [PyData.canLayAll0], by simp [PyData.depthAll]⟩
  | d :: ds, vs, ps, r, e => by
    simp only [RepL] at r
    obtain ⟨v, rr, rfl, r1, r2⟩ := r
    simp only [toPs] at e
    split at e
    · rename_i p qs e1 e2
      cases e
      obtain ⟨a1, a2, a3⟩ := hf d v p r1 e1
      obtain ⟨b1, b2, b3⟩ := toPs_dp hf ds rr qs r2 e2
      exact ⟨.cons a1 b1, by simp [PyData.canLayAll0, a2, b2], by simp only [PyData.depthAll]; omega⟩
    · cases e
theorem toP_dp {G : W3} {H : Hp} {m : Mp} {S : Sto} (s : Sim G H m S) : ∀ (n : Nat) (d : D) (v : V) (p : PyData), Rep G.K H m d v → toP n S d = some p → Dp G.K H v p ∧ p.canLay0 = true ∧ p.depth ≤ n
  | 0, d, v, p, r, e => by simp [toP] at e
  | n + 1, .non, v, p, r, e => by simp only [toP] at e; cases e; simp only [Rep] at r; subst r; exact ⟨.non, by simp [PyData.canLay0], by simp [PyData.depth]⟩
  | n + 1, .bl b, v, p, r, e => by simp only [toP] at e; cases e; simp only [Rep] at r; subst r; exact ⟨.bl b, by simp [PyData.canLay0], by simp [PyData.depth]⟩
  | n + 1, .int b, v, p, r, e => by simp only [toP] at e; cases e; simp only [Rep] at r; subst r; exact ⟨.int b, by simp [PyData.canLay0], by simp [PyData.depth]⟩
  | n + 1, .str b, v, p, r, e => by
    simp only [toP] at e
    split at e
    · rename_i ho
      cases e
      simp only [Rep] at r
      subst r
      exact ⟨.str b, by simp [PyData.canLay0, ho], by simp [PyData.depth]⟩
    · cases e
  | n + 1, .tup ds, v, p, r, e => by
    simp only [toP] at e
    cases e1 : toPs (toP n S) ds with
    | none => rw [e1] at e; cases e
    | some ps =>
      rw [e1] at e
      cases e
      simp only [Rep] at r
      obtain ⟨a, vs, rfl, t, r⟩ := r
      obtain ⟨b1, b2, b3⟩ := toPs_dp (toP_dp s n) ds vs ps r e1
      exact ⟨.tup t.sq b1, by simp [PyData.canLay0, b2], by simp only [PyData.depth]; omega⟩
  | n + 1, .lst ds, v, p, r, e => by
    simp only [toP] at e
    cases e1 : toPs (toP n S) ds with
    | none => rw [e1] at e; cases e
    | some ps =>
      rw [e1] at e
      cases e
      simp only [Rep] at r
      obtain ⟨a, vs, rfl, hn, t, r⟩ := r
      obtain ⟨b1, b2, b3⟩ := toPs_dp (toP_dp s n) ds vs ps r e1
      exact ⟨.lst (.of t) b1, by simp [PyData.canLay0, b2], by simp only [PyData.depth]; omega⟩
  | n + 1, .fz ds, v, p, r, e => by
    simp only [toP] at e
    cases e1 : toPs (toP n S) ds with
    | none => rw [e1] at e; cases e
    | some ps =>
      rw [e1] at e
      cases e
      simp only [Rep] at r
      obtain ⟨a, vs, rfl, t, r⟩ := r
      obtain ⟨b1, b2, b3⟩ := toPs_dp (toP_dp s n) ds vs ps r e1
      exact ⟨.lst t.sq b1, by simp [PyData.canLay0, b2], by simp only [PyData.depth]; omega⟩
  | n + 1, .ref k, v, p, r, e => by
    simp only [toP] at e
    split at e
    · rename_i ds hS
      cases e1 : toPs (toP n S) ds with
      | none => rw [e1] at e; cases e
      | some ps =>
        rw [e1] at e
        cases e
        simp only [Rep] at r
        obtain ⟨a, rfl, ha⟩ := r
        obtain ⟨vs, t, r⟩ := s.lst ha hS
        obtain ⟨b1, b2, b3⟩ := toPs_dp (toP_dp s n) ds vs ps r e1
        exact ⟨.lst (.of t) b1, by simp [PyData.canLay0, b2], by simp only [PyData.depth]; omega⟩
    · cases e
  | n + 1, .adr _, v, p, r, e => by simp [toP] at e
  | n + 1, .ty _, v, p, r, e => by simp [toP] at e
abbrev dP (S : Sto) (d : D) : Option PyData := toP 12 S d
theorem dP_dp {G : W3} {H : Hp} {m : Mp} {S : Sto} (s : Sim G H m S) {d : D} {v : V} {p : PyData} (r : Rep G.K H m d v) (e : dP S d = some p) : Dp G.K H v p ∧ SeqAt.shaped p = true := by
  obtain ⟨a, b, c⟩ := toP_dp s 12 d v p r e
  exact ⟨a, by unfold SeqAt.shaped; rw [b, Bool.true_and]; exact decide_eq_true (by omega)⟩
def eqD (neg : Bool) (x y : D) (S : Sto) : Res D := match dP S x, dP S y with
  | some p, some q => .ok (.bl (if neg then !PyData.eqv p q else PyData.eqv p q)) S
  | _, _ => .bad
theorem o_eq : Op2 (g3 X) X.mg (rEqD X.K) (eqD false) := by
  intro E σ m H S x y v u Q s rx ry p
  unfold eqD at p
  split at p
  · rename_i a b e1 e2
    obtain ⟨d1, s1⟩ := dP_dp s rx e1
    obtain ⟨d2, s2⟩ := dP_dp s ry e2
    exact ⟨a, b, d1, d2, s1, s2, p m _ H (.refl _ _) s (by simp [RD, Rep])⟩
  · exact p.elim
theorem o_ne : Op2 (g3 X) X.mg (rNeD X.K) (eqD true) := by
  intro E σ m H S x y v u Q s rx ry p
  unfold eqD at p
  split at p
  · rename_i a b e1 e2
    obtain ⟨d1, s1⟩ := dP_dp s rx e1
    obtain ⟨d2, s2⟩ := dP_dp s ry e2
    exact ⟨a, b, d1, d2, s1, s2, p m _ H (.refl _ _) s (by simp [RD, Rep])⟩
  · exact p.elim
/-! ### in -/
def rInT (K : PySem.W.Frag) (neg : Bool) : R2 := fun x y H Q => ∃ d ds, Dp K H x d ∧ Dp K H y (.tuple ds) ∧ SeqAt.shaped d = true ∧ SeqAt.shaped (.tuple ds) = true ∧ Q (.bl (if neg then !ds.any (fun z => PyData.eqv z d) else ds.any fun z => PyData.eqv z d)) H
theorem op_inT (hu : X.A.units + 65 < cLine) : OpR X (compareOp .In) (rInT X.K false) := by
  rintro pins s σ H x y v u Q I rx ry ⟨d, ds, hd, he, sd, se, q⟩
  obtain ⟨as, r1⟩ := Dp.reads I d x v hd rx
  obtain ⟨bs, r2⟩ := Dp.reads I (.tuple ds) y u he ry
  have se' : PyData.canLayAll0 ds = true := by have := SeqAt.canLay_of_shaped se; simpa [PyData.canLay0] using this
  have hdd := SeqAt.depth_of_shaped sd
  exact SeqAt.in_tuple_reads r2 r1 se' (SeqAt.canLay_of_shaped sd) (by omega) ⟨.bl _, H, I, rfl, q⟩
theorem op_notInT (hu : X.A.units + 65 < cLine) : OpR X (compareOp .NotIn) (rInT X.K true) := by
  rintro pins s σ H x y v u Q I rx ry ⟨d, ds, hd, he, sd, se, q⟩
  obtain ⟨as, r1⟩ := Dp.reads I d x v hd rx
  obtain ⟨bs, r2⟩ := Dp.reads I (.tuple ds) y u he ry
  have se' : PyData.canLayAll0 ds = true := by have := SeqAt.canLay_of_shaped se; simpa [PyData.canLay0] using this
  have hdd := SeqAt.depth_of_shaped sd
  exact SeqAt.notIn_tuple_reads r2 r1 se' (SeqAt.canLay_of_shaped sd) (by omega) ⟨.bl _, H, I, rfl, q⟩
def inD (neg : Bool) (x y : D) (S : Sto) : Res D := match dP S x, dP S y with
  | some p, some (.list qs) => .ok (.bl (if neg then !qs.any (fun z => PyData.eqv z p) else qs.any fun z => PyData.eqv z p)) S
  | some p, some (.tuple qs) => .ok (.bl (if neg then !qs.any (fun z => PyData.eqv z p) else qs.any fun z => PyData.eqv z p)) S
  | _, _ => .bad
theorem o_in : Op2 (g3 X) X.mg (fun x y H Q => rInD X.K x y H Q ∨ rInT X.K false x y H Q) (inD false) := by
  intro E σ m H S x y v u Q s rx ry p
  unfold inD at p
  split at p
  · rename_i a b e1 e2
    obtain ⟨d1, s1⟩ := dP_dp s rx e1
    obtain ⟨d2, s2⟩ := dP_dp s ry e2
    exact .inl ⟨a, b, d1, d2, s1, s2, p m _ H (.refl _ _) s (by simp [RD, Rep])⟩
  · rename_i a b e1 e2
    obtain ⟨d1, s1⟩ := dP_dp s rx e1
    obtain ⟨d2, s2⟩ := dP_dp s ry e2
    exact .inr ⟨a, b, d1, d2, s1, s2, p m _ H (.refl _ _) s (by simp [RD, Rep])⟩
  · exact p.elim
theorem o_notIn : Op2 (g3 X) X.mg (fun x y H Q => rNotInD X.K x y H Q ∨ rInT X.K true x y H Q) (inD true) := by
  intro E σ m H S x y v u Q s rx ry p
  unfold inD at p
  split at p
  · rename_i a b e1 e2
    obtain ⟨d1, s1⟩ := dP_dp s rx e1
    obtain ⟨d2, s2⟩ := dP_dp s ry e2
    exact .inl ⟨a, b, d1, d2, s1, s2, p m _ H (.refl _ _) s (by simp [RD, Rep])⟩
  · rename_i a b e1 e2
    obtain ⟨d1, s1⟩ := dP_dp s rx e1
    obtain ⟨d2, s2⟩ := dP_dp s ry e2
    exact .inr ⟨a, b, d1, d2, s1, s2, p m _ H (.refl _ _) s (by simp [RD, Rep])⟩
  · exact p.elim
/-! ### items -/
def ixL (xs : Option (List D)) (i : Int) (S : Sto) : Res D := match xs with
  | some xs => (match L2.atI xs i with | some d => .ok d S | none => .bad)
  | none => .bad
def ixD : D → D → Sto → Res D
  | .str z, .int i, S => if z.length ≤ sz then (match L2.atI z.cps.toList i with | some c => .ok (.str ⟨#[c]⟩) S | none => .bad) else .bad
  | d, .int i, S => ixL (seqOf S d) i S
  | _, _, _ => .bad
theorem o_ix : Op2 (g3 X) X.mg (rIx X.K) ixD := by
  intro E σ m H S x y v u Q s rx ry p
  unfold ixD at p
  split at p
  · simp only [Rep] at rx ry
    split at p
    · rename_i hl
      split at p
      · rename_i c e
        exact .inr (.inr ⟨_, _, c, rx, ry, sz_ok hl, e, p m _ H (.refl _ _) s (by simp only [RD, Rep])⟩)
      · exact p.elim
    · exact p.elim
  · simp only [Rep] at ry
    unfold ixL at p
    split at p
    · rename_i xs hS
      split at p
      · rename_i d e
        obtain ⟨a, vs, rfl, hq, r⟩ := seq_at s rx hS
        obtain ⟨w, e1, r1⟩ := r.atI e
        have q := p m w H (.refl _ _) s r1
        rcases hq with hq | hq
        · exact .inl ⟨a, vs, _, w, rfl, ry, hq, e1, q⟩
        · exact .inr (.inl ⟨a, vs, _, w, rfl, ry, hq, e1, q⟩)
      · exact p.elim
    · exact p.elim
  · exact p.elim
/-! ### calls -/
def lenD : List D → Sto → Res D
  | [.str z], S => if z.length ≤ sz then .ok (.int z.length) S else .bad
  | [d], S => (match seqOf S d with | some xs => .ok (.int xs.length) S | none => .bad)
  | _, _ => .bad
theorem o_len : OpN (g3 X) X.mg (fun xs H Q => ∃ x n, xs = [x] ∧ LenV X.K x H n ∧ Q (.int (n : Nat)) H) lenD := by
  intro E σ m H S xs vs Q s r p
  unfold lenD at p
  split at p
  · simp only [RepL, Rep] at r
    obtain ⟨v, rr, rfl, rfl, rfl⟩ := r
    split at p
    · rename_i hl
      exact ⟨_, _, rfl, ⟨sz_ok hl, rfl⟩, p m _ H (.refl _ _) s (by simp only [RD, Rep])⟩
    · exact p.elim
  · simp only [RepL] at r
    obtain ⟨v, rr, rfl, r1, rfl⟩ := r
    split at p
    · rename_i ys hS
      obtain ⟨a, vs, rfl, hq, r⟩ := seq_at s r1 hS
      have q := p m (.int (ys.length : Nat)) H (.refl _ _) s (by simp only [RD, Rep])
      rw [← r.length] at q
      refine ⟨_, _, rfl, ?_, q⟩
      rcases hq with hq | hq
      · exact .inl ⟨vs, hq, rfl⟩
      · exact .inr ⟨vs, hq, rfl⟩
    · exact p.elim
  · exact p.elim
/-- tuple(x) -/
def tupleD : List D → Sto → Res D
  | [.tup xs], S => .ok (.tup xs) S
  | [d], S => (match seqOf S d with | some xs => .ok (.tup xs) S | none => .bad)
  | _, _ => .bad
theorem o_tuple : OpN (g3 X) X.mg (fun xs H Q => ∃ p ys, xs = [.ref p] ∧ ((SqL X.K H p ys ∧ ∀ l, H l = none → Q (.ref l) (upd H l (.tup ys))) ∨ (SqT X.K H p ys ∧ Q (.ref p) H))) tupleD := by
  intro E σ m H S xs vs Q s r p
  unfold tupleD at p
  split at p
  · simp only [RepL] at r
    obtain ⟨v, rr, rfl, r1, rfl⟩ := r
    have r0 := r1
    simp only [Rep] at r1
    obtain ⟨a, vs, rfl, t, r1⟩ := r1
    exact ⟨a, vs, rfl, .inr ⟨t.sq, p m _ H (.refl _ _) s r0⟩⟩
  · rename_i d hno
    simp only [RepL] at r
    obtain ⟨v, rr, rfl, r1, rfl⟩ := r
    split at p
    · rename_i ys hS
      have hL : ∃ a vs, v = .ref a ∧ SqL X.K H a vs ∧ RepL X.K H m ys vs := by
        by_cases h : lstOf S d = some ys
        · obtain ⟨a, vs, e1, e2, r⟩ := lst_at s r1 h
          exact ⟨a, vs, e1, .of e2, r⟩
        · cases d with
          | tup xs => exact absurd rfl (hno xs)
          | fz xs =>
            cases hS
            simp only [Rep] at r1
            obtain ⟨a, vs, ev, t, r⟩ := r1
            exact ⟨a, vs, ev, t.sq, r⟩
          | lst xs => exact absurd hS h
          | ref n => exact absurd hS h
          | _ => cases hS
      obtain ⟨a, vs, rfl, hq, r⟩ := hL
      exact ⟨a, vs, rfl, .inl ⟨hq, fun q hq => p m _ _ (.new hq) (s.new hq) (.newTup hq r)⟩⟩
    · exact p.elim
  · exact p.elim
/-- list(x), by value; to the store -/
def listD : List D → Sto → Res D
  | [d], S => (match seqOf S d with | some xs => .ok (.lst xs) S | none => .bad)
  | _, _ => .bad
def listN : List D → Sto → Res D
  | [d], S => (match seqOf S d with | some xs => .ok (.ref S.length) (S ++ [.lst xs]) | none => .bad)
  | _, _ => .bad
theorem Rep.refLast {K : PySem.W.Frag} {H : Hp} {m : Mp} {p : Addr} {n : Nat} (h : m.at_.length = n) : Rep K H (m.add p) (.ref n) (.ref p) := by
  simp only [Rep]
  exact ⟨p, rfl, by show (m.at_ ++ [p])[n]? = some p; rw [List.getElem?_append_right (by omega)]; simp [h]⟩
theorem o_list : OpN (g3 X) X.mg (fun xs H Q => ∃ p ys, xs = [.ref p] ∧ (SqL X.K H p ys ∨ SqT X.K H p ys) ∧ ∀ l, H l = none → Q (.ref l) (upd H l (.lst ys))) listD := by
  intro E σ m H S xs vs Q s r p
  unfold listD at p
  split at p
  · simp only [RepL] at r
    obtain ⟨v, rr, rfl, r1, rfl⟩ := r
    split at p
    · rename_i ys hS
      obtain ⟨a, vs, rfl, hq, r⟩ := seq_at s r1 hS
      exact ⟨a, vs, rfl, hq, fun q hq => p m _ _ (.new hq) (s.new hq) (.newLst s hq r)⟩
    · exact p.elim
  · exact p.elim
theorem o_listN : OpN (g3 X) X.mg (fun xs H Q => ∃ p ys, xs = [.ref p] ∧ (SqL X.K H p ys ∨ SqT X.K H p ys) ∧ ∀ l, H l = none → Q (.ref l) (upd H l (.lst ys))) listN := by
  intro E σ m H S xs vs Q s r p
  unfold listN at p
  split at p
  · simp only [RepL] at r
    obtain ⟨v, rr, rfl, r1, rfl⟩ := r
    split at p
    · rename_i ys hS
      obtain ⟨a, vs, rfl, hq, r⟩ := seq_at s r1 hS
      exact ⟨a, vs, rfl, hq, fun q hq => p (m.add q) _ _ (.alloc hq) (s.alloc hq ⟨vs, upd_same, r.mono (.alloc hq)⟩) (.refLast s.len)⟩
    · exact p.elim
  · exact p.elim
/-- all, any of bools -/
def blsOf : List D → Option (List Bool)
  | [] => some []
  | .bl b :: ds => (blsOf ds).map (b :: ·)
  | _ => none
theorem blsOf_eq : ∀ {ds : List D} {bs : List Bool}, blsOf ds = some bs → ds = bs.map D.bl
  | [], bs, e => by cases e; rfl
  | d :: ds, bs, e => by
    cases d with
    | bl b =>
      simp only [blsOf] at e
      cases e1 : blsOf ds with
      | none => rw [e1] at e; cases e
      | some cs => rw [e1] at e; cases e; rw [blsOf_eq e1]; rfl
    | _ => cases e
theorem blsOf_map : ∀ (bs : List Bool), blsOf (bs.map D.bl) = some bs
  | [] => rfl
  | b :: bs => by simp only [List.map_cons, blsOf, blsOf_map bs]; rfl
def boolsD (f : List Bool → Bool) : List D → Sto → Res D
  | [d], S => (match lstOf S d with | some xs => (match blsOf xs with | some bs => .ok (.bl (f bs)) S | none => .bad) | none => .bad)
  | _, _ => .bad
abbrev allD := boolsD (fun bs => bs.all id)
abbrev anyD := boolsD (fun bs => bs.any id)
theorem o_bools {f : List Bool → Bool} : OpN (g3 X) X.mg (fun vs H Q => ∃ (a : Addr) (bs : List Bool), vs = [V.ref a] ∧ SqL X.K H a (bs.map V.bl) ∧ Q (.bl (f bs)) H) (boolsD f) := by
  intro E σ m H S xs vs Q s r p
  unfold boolsD at p
  split at p
  · simp only [RepL] at r
    obtain ⟨v, rr, rfl, r1, rfl⟩ := r
    split at p
    · rename_i ys hS
      split at p
      · rename_i bs e
        obtain ⟨a, vs, rfl, hq, r⟩ := lst_at s r1 hS
        rw [blsOf_eq e] at r
        rw [r.bls] at hq
        exact ⟨a, bs, rfl, .of hq, p m _ H (.refl _ _) s (by simp only [RD, Rep])⟩
      · exact p.elim
    · exact p.elim
  · exact p.elim
/-- ints -/
def intsOf : List D → Option (List Int)
  | [] => some []
  | .int b :: ds => (intsOf ds).map (b :: ·)
  | _ => none
theorem intsOf_eq : ∀ {ds : List D} {bs : List Int}, intsOf ds = some bs → ds = bs.map D.int
  | [], bs, e => by cases e; rfl
  | d :: ds, bs, e => by
    cases d with
    | int b =>
      simp only [intsOf] at e
      cases e1 : intsOf ds with
      | none => rw [e1] at e; cases e
      | some cs => rw [e1] at e; cases e; rw [intsOf_eq e1]; rfl
    | _ => cases e
theorem intsOf_map : ∀ (bs : List Int), intsOf (bs.map D.int) = some bs
  | [] => rfl
  | b :: bs => by simp only [List.map_cons, intsOf, intsOf_map bs]; rfl
def minL : Int → List Int → Int
  | a, [] => a
  | a, b :: bs => minL (if b < a then b else a) bs
def maxL : Int → List Int → Int
  | a, [] => a
  | a, b :: bs => maxL (if b > a then b else a) bs
theorem minL_spec : ∀ (a : Int) (bs : List Int), minL a bs ∈ a :: bs ∧ ∀ y ∈ a :: bs, minL a bs ≤ y
  | a, [] => by simp [minL]
  | a, b :: bs => by
    obtain ⟨h1, h2⟩ := minL_spec (if b < a then b else a) bs
    simp only [minL]
    refine ⟨?_, fun y hy => ?_⟩
    · rcases List.mem_cons.1 h1 with h | h
      · rw [h]; split <;> simp
      · exact List.mem_cons_of_mem _ (List.mem_cons_of_mem _ h)
    · have h0 := h2 _ (List.mem_cons_self ..)
      generalize minL (if b < a then b else a) bs = z at h0 h2 ⊢
      rcases List.mem_cons.1 hy with rfl | hy
      · split at h0 <;> omega
      · rcases List.mem_cons.1 hy with rfl | hy
        · split at h0 <;> omega
        · exact h2 y (List.mem_cons_of_mem _ hy)
theorem maxL_spec : ∀ (a : Int) (bs : List Int), maxL a bs ∈ a :: bs ∧ ∀ y ∈ a :: bs, y ≤ maxL a bs
  | a, [] => by simp [maxL]
  | a, b :: bs => by
    obtain ⟨h1, h2⟩ := maxL_spec (if b > a then b else a) bs
    simp only [maxL]
    refine ⟨?_, fun y hy => ?_⟩
    · rcases List.mem_cons.1 h1 with h | h
      · rw [h]; split <;> simp
      · exact List.mem_cons_of_mem _ (List.mem_cons_of_mem _ h)
    · have h0 := h2 _ (List.mem_cons_self ..)
      generalize maxL (if b > a then b else a) bs = z at h0 h2 ⊢
      rcases List.mem_cons.1 hy with rfl | hy
      · split at h0 <;> omega
      · rcases List.mem_cons.1 hy with rfl | hy
        · split at h0 <;> omega
        · exact h2 y (List.mem_cons_of_mem _ hy)
def extD (f : Int → List Int → Int) : List D → Sto → Res D
  | [.int i, .int j], S => .ok (.int (f i [j])) S
  | [d], S => (match lstOf S d with | some xs => (match intsOf xs with | some (a :: bs) => .ok (.int (f a bs)) S | _ => .bad) | none => .bad)
  | _, _ => .bad
abbrev minD := extD minL
abbrev maxD := extD maxL
theorem o_min : OpN (g3 X) X.mg (fun vs H Q => rMin X.K vs H Q ∨ ∃ i j, vs = [.int i, .int j] ∧ Q (.int (if j < i then j else i)) H) minD := by
  intro E σ m H S xs vs Q s r p
  unfold minD extD at p
  split at p
  · rename_i i j
    have := RepL.ints (ns := [i, j]) r
    exact .inr ⟨i, j, this, p m _ H (.refl _ _) s (by simp only [RD, Rep]; rfl)⟩
  · simp only [RepL] at r
    obtain ⟨v, rr, rfl, r1, rfl⟩ := r
    split at p
    · rename_i ys hS
      split at p
      · rename_i a bs e
        obtain ⟨ad, vs, rfl, hq, r⟩ := lst_at s r1 hS
        rw [intsOf_eq e] at r
        rw [r.ints] at hq
        refine .inl ⟨ad, a :: bs, rfl, .of hq, by simp, fun mm h1 h2 => ?_⟩
        have hs := minL_spec a bs
        have : mm = minL a bs := by have := hs.2 mm h1; have := h2 _ hs.1; omega
        subst this
        exact p m _ H (.refl _ _) s (by simp only [RD, Rep])
      · exact p.elim
    · exact p.elim
  · exact p.elim
theorem o_max : OpN (g3 X) X.mg (fun vs H Q => rMax X.K vs H Q ∨ ∃ i j, vs = [.int i, .int j] ∧ Q (.int (if j > i then j else i)) H) maxD := by
  intro E σ m H S xs vs Q s r p
  unfold maxD extD at p
  split at p
  · rename_i i j
    have := RepL.ints (ns := [i, j]) r
    exact .inr ⟨i, j, this, p m _ H (.refl _ _) s (by simp only [RD, Rep]; rfl)⟩
  · simp only [RepL] at r
    obtain ⟨v, rr, rfl, r1, rfl⟩ := r
    split at p
    · rename_i ys hS
      split at p
      · rename_i a bs e
        obtain ⟨ad, vs, rfl, hq, r⟩ := lst_at s r1 hS
        rw [intsOf_eq e] at r
        rw [r.ints] at hq
        refine .inl ⟨ad, a :: bs, rfl, .of hq, by simp, fun mm h1 h2 => ?_⟩
        have hs := maxL_spec a bs
        have : mm = maxL a bs := by have := hs.2 mm h1; have := h2 _ hs.1; omega
        subst this
        exact p m _ H (.refl _ _) s (by simp only [RD, Rep])
      · exact p.elim
    · exact p.elim
  · exact p.elim
theorem call_minA (hc : X.calm = true) : CallR X (.builtin "min") (fun vs H Q => rMin X.K vs H Q ∨ ∃ i j, vs = [.int i, .int j] ∧ Q (.int (if j < i then j else i)) H) := (cr_min hc).or (call_min2 hc)
theorem call_maxA (hc : X.calm = true) : CallR X (.builtin "max") (fun vs H Q => rMax X.K vs H Q ∨ ∃ i j, vs = [.int i, .int j] ∧ Q (.int (if j > i then j else i)) H) := (cr_max hc).or (call_max2 hc)
/-- int(x) -/
def intD : List D → Sto → Res D
  | [.int i], S => .ok (.int i) S
  | [.bl b], S => .ok (.int (if b then 1 else 0)) S
  | _, _ => .bad
theorem o_int : OpN (g3 X) X.mg (fun xs H Q => (∃ i, xs = [.int i] ∧ Q (.int i) H) ∨ ∃ k, xs = [.bl k] ∧ Q (.int (if k then 1 else 0)) H) intD := by
  intro E σ m H S xs vs Q s r p
  unfold intD at p
  split at p
  · simp only [RepL, Rep] at r
    obtain ⟨v, rr, rfl, rfl, rfl⟩ := r
    exact .inl ⟨_, rfl, p m _ H (.refl _ _) s (by simp only [RD, Rep])⟩
  · simp only [RepL, Rep] at r
    obtain ⟨v, rr, rfl, rfl, rfl⟩ := r
    exact .inr ⟨_, rfl, p m _ H (.refl _ _) s (by simp only [RD, Rep])⟩
  · exact p.elim
/-- isinstance(x, T), T a built-in type -/
def tyOf (S : Sto) : D → Option String
  | .non => some "NoneType"
  | .bl _ => some "bool"
  | .int _ => some "int"
  | .str _ => some "str"
  | .tup _ => some "tuple"
  | .lst _ => some "list"
  | .ref n => (match S[n]? with | some (.lst _) => some "list" | some (.dS _) => some "dict" | _ => none)
  | _ => none
theorem tyOf_ok {G : W3} {H : Hp} {m : Mp} {S : Sto} {d : D} {v : V} {T : String} (s : Sim G H m S) (r : Rep G.K H m d v) (e : tyOf S d = some T) : TyX G.K H v (.type T) := by
  cases d with
  | non => cases e; simp only [Rep] at r; subst r; exact .base .non
  | bl b => cases e; simp only [Rep] at r; subst r; exact .base (.bl b)
  | int b => cases e; simp only [Rep] at r; subst r; exact .base (.int b)
  | str b => cases e; simp only [Rep] at r; subst r; exact .base (.str b)
  | tup ds =>
    cases e
    simp only [Rep] at r
    obtain ⟨a, vs, rfl, t, r⟩ := r
    rcases t with t | ⟨o, its, n, h1, h2, _⟩
    · exact .base (.tup t)
    · exact .kTuple h1 h2
  | lst ds =>
    cases e
    simp only [Rep] at r
    obtain ⟨a, vs, rfl, hn, t, r⟩ := r
    exact .base (.lst t)
  | ref n =>
    simp only [tyOf] at e
    simp only [Rep] at r
    obtain ⟨a, rfl, ha⟩ := r
    split at e
    · rename_i ds hS
      cases e
      obtain ⟨vs, h1, _⟩ := s.at_ n a _ ha hS
      exact .base (.lst h1)
    · rename_i ds hS
      cases e
      obtain ⟨vs, h1, _⟩ := s.at_ n a _ ha hS
      exact .base (.dK h1)
    · cases e
  | _ => cases e
def isiD : List D → Sto → Res D
  | [x, .ty c], S => (match tyOf S x with | some t => (match kitB t c with | some b => .ok (.bl b) S | none => .bad) | none => .bad)
  | _, _ => .bad
theorem o_isi : OpN (g3 X) X.mg (rIsi X.K) isiD := by
  intro E σ m H S xs vs Q s r p
  unfold isiD at p
  split at p
  · rename_i x c
    simp only [RepL, Rep] at r
    obtain ⟨v, rr, rfl, r1, w, r2, rfl, rfl, rfl⟩ := r
    split at p
    · rename_i t e
      split at p
      · rename_i b e2
        exact ⟨v, .ty c, .type t, .type c, b, rfl, .ty c, tyOf_ok s r1 e, kit_ty e2, p m _ H (.refl _ _) s (by simp only [RD, Rep])⟩
      · exact p.elim
    · exact p.elim
  · exact p.elim
theorem se_bty {E : WX} {x : Str} {n : String} {pos : Pos} (hg : Gl X x) (hm : X.mg x = none) (hv : bootBuiltins x = some (.type n)) (hn : x ≠ "__name__" := by decide) (hd : (x == ("__debug__" : Str)) = false := by decide) : SE X E (.Name x pos) (eC (.ty n)) :=
  se_c (pe_bltn (v := .ty n) hg hm hv rfl hn hd) fun _ _ => by simp only [Rep]
end
end Py
set_option maxRecDepth 100000
set_option maxHeartbeats 1000000
namespace Py
open PySem PySem.Spec PyProof.Rows L2

/-! ### t[::-1], t[::2] of a tuple -/
def evens {α : Type} : List α → List α
  | [] => []
  | [x] => [x]
  | x :: _ :: r => x :: evens r
theorem evens_len {α : Type} : ∀ xs : List α, (evens xs).length = (xs.length + 1) / 2
  | [] => by simp [evens]
  | [_] => by simp [evens]
  | x :: y :: r => by simp only [evens, List.length_cons, evens_len r]; omega
theorem evens_get {α : Type} : ∀ (xs : List α) (i : Nat), (evens xs)[i]? = xs[2 * i]?
  | [], i => by simp [evens]
  | [x], 0 => rfl
  | [x], i + 1 => by simp [evens]
  | x :: y :: r, 0 => rfl
  | x :: y :: r, i + 1 => by
    simp only [evens, List.getElem?_cons_succ]
    rw [evens_get r i, show 2 * (i + 1) = 2 * i + 1 + 1 by omega]
    simp
theorem evens_map {α β : Type} (f : α → β) : ∀ xs : List α, evens (xs.map f) = (evens xs).map f
  | [] => rfl
  | [_] => rfl
  | x :: y :: r => by simp only [List.map_cons, evens, evens_map f r]
theorem fm_range {α : Type} (g : Nat → Option α) (zs : List α) (h : ∀ i, i < zs.length → g i = zs[i]?) : ∀ k, k ≤ zs.length → (List.range k).filterMap g = zs.take k
  | 0, _ => by simp
  | k + 1, hk => by
    rw [List.range_succ, List.filterMap_append, fm_range g zs h k (by omega), List.take_add_one]
    congr 1
    rw [List.getElem?_eq_getElem (by omega)]
    have := h k (by omega)
    rw [List.getElem?_eq_getElem (by omega)] at this
    simp [this]
theorem Vals.evens : ∀ {xs : List V} {us : List Value}, Vals xs us → Vals (evens xs) (Py.evens us)
  | [], _, h => by cases h; exact .nil
  | [x], _, h => by cases h with | cons a b => cases b; exact .cons a .nil
  | x :: y :: r, _, h => by
    cases h with
    | cons a b => cases b with
      | cons c d => exact .cons a (Vals.evens d)
def stepL {α : Type} (c : Int) (xs : List α) : List α := if c = -1 then xs.reverse else evens xs
theorem Vals.stepL {c : Int} {xs : List V} {us : List Value} (h : Vals xs us) : Vals (stepL c xs) (Py.stepL c us) := by
  unfold Py.stepL
  split
  · exact h.reverse
  · exact Vals.evens h
theorem stepL_len {α : Type} (c : Int) (xs : List α) : (stepL c xs).length ≤ xs.length := by
  unfold stepL
  split
  · simp
  · rw [evens_len]; omega
section
variable {prog : Program} {w : World} {A : Around} {E : Value → Shared → Prop} {s : Shared}
theorem step_parts (c : Int) (hc : c = -1 ∨ c = 2) (items : Array Value) : ∃ lo : Int, ∃ n : Nat, Builtin.Slice.sliceAdjust none none c (items.size : Int) = (lo, if c = -1 then -1 else (items.size : Int)) ∧
    Builtin.Slice.slicePlaces lo (if c = -1 then -1 else (items.size : Int)) c = n ∧ ((List.range n).filterMap fun (k : Nat) => items[(lo + (k : Int) * c).toNat]?).toArray = (stepL c items.toList).toArray := by
  rcases hc with rfl | rfl
  · refine ⟨(items.size : Int) - 1, items.size, by simp [Builtin.Slice.sliceAdjust], ?_, ?_⟩
    · unfold Builtin.Slice.slicePlaces
      rw [if_neg (by decide), if_pos rfl]
      split
      · simp
      · simp; omega
    · congr 1
      have := fm_range (fun k : Nat => items[((items.size : Int) - 1 + (k : Int) * -1).toNat]?) items.toList.reverse (fun i hi => ?_) items.size (by simp)
      · rw [this, List.take_of_length_le (by simp)]
        simp [stepL]
      · simp only [List.length_reverse, Array.length_toList] at hi
        rw [List.getElem?_reverse (by simpa using hi), show ((items.size : Int) - 1 + (i : Int) * -1).toNat = items.toList.length - 1 - i by rw [Array.length_toList]; omega]
        simp
  · refine ⟨0, (items.size + 1) / 2, by simp [Builtin.Slice.sliceAdjust], ?_, ?_⟩
    · unfold Builtin.Slice.slicePlaces
      rw [if_pos (by decide), if_neg (show ¬ (2 : Int) = -1 by decide)]
      split <;> omega
    · congr 1
      have hl : (Py.evens items.toList).length = (items.size + 1) / 2 := by rw [evens_len, Array.length_toList]
      have := fm_range (fun k : Nat => items[((0 : Int) + (k : Int) * 2).toNat]?) (Py.evens items.toList) (fun i hi => ?_) ((items.size + 1) / 2) (by omega)
      · rw [this, List.take_of_length_le (by omega)]
        simp [stepL]
      · rw [evens_get, show ((0 : Int) + (i : Int) * 2).toNat = 2 * i by omega]
        simp
theorem applied_step {sl : Addr} {vl vu vs : Value} {c lo hi : Int} {n k : Nat} {Q : Int × Int × Nat → Shared → Prop} (hs : s.heap.IsSliceOf sl vl vu vs) (pl : IsPart vl none) (pu : IsPart vu none) (ps : IsPart vs (some c)) (h0 : c ≠ 0)
    (e1 : Builtin.Slice.sliceAdjust none none c (n : Int) = (lo, hi)) (e2 : Builtin.Slice.slicePlaces lo hi c = k) (h : Q (lo, c, k) s) : wpAny (model prog w) A (Builtin.Slice.sliceApplied (.ref sl) (pure (n : Int))) Q E s := by
  obtain ⟨os, hos, hcs, hds⟩ := id hs
  unfold Builtin.Slice.sliceApplied Builtin.Slice.sliceFields
  apply wpAny_bind
  apply wpAny_bind
  refine wpAny_field hos hds (x := vl) rfl ?_
  apply wpAny_bind
  refine wpAny_field hos hds (x := vu) rfl ?_
  apply wpAny_bind
  refine wpAny_field hos hds (x := vs) rfl ?_
  apply wpAny_pure
  refine wpAny_bind (HT.slicePart_ ps ?_)
  have hz : ¬ ((c == 0) = true) := by simpa using h0
  show wpAny _ _ (if (c == 0) = true then _ else _) _ _ s
  rw [if_neg hz]
  refine wpAny_bind (HT.slicePart_ pl ?_)
  refine wpAny_bind (HT.slicePart_ pu ?_)
  refine wpAny_bind (wpAny_pure ?_)
  show wpAny _ _ (match Builtin.Slice.sliceAdjust none none c (n : Int) with | (lo, hi) => pure (lo, c, Builtin.Slice.slicePlaces lo hi c)) _ _ s
  rw [e1]
  show wpAny _ _ (pure (lo, c, Builtin.Slice.slicePlaces lo hi c)) _ _ s
  rw [e2]
  exact wpAny_pure h
theorem getItem_step {t sl : Addr} {items : Array Value} {vl vu vs : Value} {c : Int} {Q : Value → Shared → Prop} (ht : IsTup s.heap t items) (hs : s.heap.IsSliceOf sl vl vu vs) (pl : IsPart vl none) (pu : IsPart vu none) (ps : IsPart vs (some c)) (hc : c = -1 ∨ c = 2)
    (h : Q (.ref s.heap.objs.size) { s with heap := s.heap.push { cls := .type "tuple", data := .seq (stepL c items.toList).toArray } }) (hsz : items.size ≤ sizeLine) : wpAny (model prog w) A (getItem (.ref t) (.ref sl)) Q E s := by
  have hfit : sizeOk (.seq (stepL c items.toList).toArray) := by
    show (stepL c items.toList).toArray.size ≤ sizeLine
    have := stepL_len c items.toList
    have hl : items.toList.length = items.size := Array.length_toList
    rw [List.size_toArray]
    omega
  obtain ⟨lo, n, e1, e2, e3⟩ := step_parts c hc items
  obtain ⟨os, hos, hcs, hds⟩ := id hs
  have hTs : s.TypeIs (.ref sl) "slice" := ⟨os, hos, hcs⟩
  unfold getItem
  try with_reducible refine wpAny_holding ?_
  first | refine wpAny_bind (wpAny_pure ?_) | skip
  apply wpAny_bind
  refine wpAny_sequenceKey ht.typeIs (by decide) ?_
  apply wpAny_bind
  refine wpAny_callSpecial?_slot (name := Str.ofString "__getitem__") ht.typeIs PyProof.Rows.slot_tuple_getitem ?_
  refine wpAny_call_entry PyProof.Rows.slot_tuple_getitem ht.typeIs entry_tuple_getitem ?_ (args_tuple_getitem _ _)
  show wpAny _ _ (Builtin.Tuple.tupleItemsOf (.ref t) >>= _) _ _ s
  apply wpAny_bind
  refine tupleItemsOf_ ht ?_
  apply wpAny_bind
  refine wpAny_typeOf hTs ?_
  rw [if_pos (by decide)]
  apply wpAny_bind
  refine applied_step hs pl pu ps (by rcases hc with rfl | rfl <;> decide) e1 e2 ?_
  have hno : ¬ ((lo == 0 && c == 1 && n == items.size) = true) := by
    rcases hc with rfl | rfl <;> simp
  show wpAny _ _ (if (lo == 0 && c == 1 && n == items.size) = true then _ else _) _ _ s
  rw [if_neg hno, e3]
  first
    | exact wpAny_bind (m := Builtin.Tuple.tupleExact _) (wpAny_newObj_type (wpAny_pure ⟨_, rfl, wpAny_pure h⟩) hfit)
    | exact wpAny_bind (m := Builtin.Tuple.tupleExact _) (wpAny_newObj_type (wpAny_bind (wpAny_pure (wpAny_pure ⟨_, rfl, wpAny_pure h⟩))) hfit)
    | exact wpAny_bind (wpAny_bind (m := Builtin.Tuple.tupleExact _) (wpAny_newObj_type (wpAny_pure (wpAny_pure ⟨_, rfl, wpAny_pure h⟩)) hfit))
    | exact wpAny_bind (wpAny_bind (m := Builtin.Tuple.tupleExact _) (wpAny_newObj_type (wpAny_pure ⟨_, rfl, wpAny_pure h⟩) hfit))
end
section
variable {X : Cx}
def tStep (K : PySem.W.Frag) (c : Int) (te : TE) : TE := fun σ H Q => te σ H fun x H1 => ∃ a xs, x = .ref a ∧ SqT K H1 a xs ∧ ∀ p, H1 p = none → Q (.ref p) (upd H1 p (.tup (stepL c xs)))
theorem pe_step {e st : Expr} {te : TE} {c : Int} {p3 pos : Pos} {tst : TE} (he : PE X e te) (hst : PE X st tst) (hq : ∀ σ H Q, Q (.int c) H → tst σ H Q) (hc : c = -1 ∨ c = 2)
    (hpl : ∀ o i, subscripted (.Slice none none (some st) p3) false o i = operate [o, i] (getItem o i) := by intros; rfl) :
    PE X (.Subscript e (.Slice none none (some st) p3) pos) (tStep X.K c te) := by
  constructor
  intro pins s σ H Q I h
  apply Subscript_
  refine thn (he.run pins s σ H _ I h) ?_
  rintro v s1 ⟨x, H1, I1, r1, a, xs, rfl, hx, q⟩
  cases r1
  have hs : PO X (some st) (tPart tst) := po_some hst
  apply wpAny_Slice
  refine thn (po_none.run pins s1 σ H1 (fun o H2 => o = none ∧ H2 = H1) I1 ⟨rfl, rfl⟩) ?_
  rintro vl s2 ⟨l, H2, I2, pl, rfl, rfl⟩
  refine thn (po_none.run pins s2 σ H2 (fun o H3 => o = none ∧ H3 = H2) I2 ⟨rfl, rfl⟩) ?_
  rintro vu s3 ⟨u, H3, I3, pu, rfl, rfl⟩
  refine thn (hs.run pins s3 σ H3 (fun o H4 => o = some c ∧ H4 = H3) I3 (hq _ _ _ ⟨c, rfl, rfl, rfl⟩)) ?_
  rintro vs s4 ⟨o, H4, I4, ps, rfl, rfl⟩
  have I5 : Inv X pins σ H4 { s4 with heap := s4.heap.push { cls := .type "slice", data := .fields #[vl, vu, vs] } } := I4.kept (t' := s4.toks) fun b ob q => Heap.get?_push_of_some _ q
  obtain ⟨its, r, ht, hz⟩ := I5.tuple hx
  have hlen := r.length
  show wpAny (model X.prog X.w) X.A (subscriptTail e _ (.ref a) (.ref s4.heap.objs.size)) _ X.xe _
  refine tail_any (ops := [.ref a, .ref s4.heap.objs.size]) ht.typeIs PyProof.Rows.slot_tuple_getitem.lookup ?_ (hpl _ _)
  refine getItem_step ht (Heap.IsSliceOf.new _ vl vu vs) pl pu ps hc ?_ (by rw [List.size_toArray]; omega)
  refine ⟨.ref _, _, I5.laid (t' := s4.toks) (o := .tup (stepL c xs)) (fun b ob q => Heap.get?_push_of_some _ q) (Nat.le_refl _) ?_, rfl, q _ (I5.hok.fresh (Nat.le_refl _))⟩
  exact ⟨Nat.le_trans (stepL_len c xs) hz, _, Vals.stepL r, IsTup.new _ _⟩
end
end Py
set_option maxRecDepth 100000
set_option maxHeartbeats 1000000
namespace Py
open PySem PySem.Spec PyProof.Rows L2

theorem RepL.evens {K : PySem.W.Frag} {H : Hp} {m : Mp} : ∀ {ds : List D} {vs : List V}, RepL K H m ds vs → RepL K H m (Py.evens ds) (Py.evens vs)
  | [], vs, h => by simp only [RepL] at h; subst h; exact .nil
  | [d], vs, h => by
    simp only [RepL] at h
    obtain ⟨v, r, rfl, h1, rfl⟩ := h
    exact .one h1
  | d :: d' :: ds, vs, h => by
    simp only [RepL] at h
    obtain ⟨v, r, rfl, h1, v', r', rfl, h2, h3⟩ := h
    exact .cons h1 (RepL.evens h3)
theorem RepL.stepL {K : PySem.W.Frag} {H : Hp} {m : Mp} {c : Int} {ds : List D} {vs : List V} (h : RepL K H m ds vs) : RepL K H m (Py.stepL c ds) (Py.stepL c vs) := by
  unfold Py.stepL
  split
  · exact h.reverse
  · exact h.evens
def eStep (c : Int) (f : ME) : ME := fun fr S => (f fr S).bind fun d S => match d with | .tup xs => .ok (.tup (stepL c xs)) S | _ => .bad
section
variable {X : Cx} {E : WX} {e : Expr} {f : ME} {pos : Pos}
theorem step_of {c : Int} {σ : L2.St} {H : Hp} {Q : VK} (h : tE (g3 X) X.mg E (eStep c f) σ H Q) : tStep X.K c (tE (g3 X) X.mg E f) σ H Q := by
  obtain ⟨m, fr, S, at_, h⟩ := h
  refine ⟨m, fr, S, at_, POk.bind h fun d S1 m1 v H1 e g s r p => ?_⟩
  cases d with
  | tup xs =>
    simp only [RD, Rep] at r
    obtain ⟨a, vs, rfl, t, r⟩ := r
    exact ⟨a, vs, rfl, t.sq, fun q hq => p m1 _ _ (.new hq) (s.new hq) (.newTup hq r.stepL)⟩
  | _ => exact p.elim
/-- e[::-1] -/
theorem se_rev {k : Nat} {p1 p2 p3 : Pos} (he : SE X E e f) : SE X E (.Subscript e (.Slice none none (some (.UnaryOp .USub (.Constant (.int 1) k p1) p2)) p3) pos) (eStep (-1) f) :=
  pe_imp (pe_step (c := -1) he (pe_un un_neg pe_int) (fun σ H Q q => ⟨1, rfl, q⟩) (.inl rfl)) fun _ _ _ h => step_of h
/-- e[::2] -/
theorem se_halve {k : Nat} {p1 p3 : Pos} (he : SE X E e f) : SE X E (.Subscript e (.Slice none none (some (.Constant (.int 2) k p1)) p3) pos) (eStep 2 f) :=
  pe_imp (pe_step (c := 2) he pe_int (fun σ H Q q => q) (.inr rfl)) fun _ _ _ h => step_of h
/-! ### slices -/
abbrev MO := Fr → Sto → Res (Option Int)
abbrev RO : Hp → Mp → Option Int → Option Int → Prop := fun _ _ a b => b = a
def tO (G : W3) (mg : Str → Option Value) (E : WX) (f : MO) : TO := fun σ H Q => ∃ m fr S, At G H m σ fr S ∧ POk RO G mg E σ m H Q (f fr S)
def SO (X : Cx) (E : WX) (e : Option Expr) (f : MO) : Prop := PO X e (tO (g3 X) X.mg E f)
theorem po_imp {e : Option Expr} {t t' : TO} (h : PO X e t) (w : ∀ σ H Q, t' σ H Q → t σ H Q) : PO X e t' := ⟨fun pins s σ H Q I q => h.run pins s σ H Q I (w σ H Q q)⟩
def oNone : MO := fun _ S => .ok none S
def oSome (f : ME) : MO := fun fr S => (f fr S).bind fun d S => match d with | .int i => .ok (some i) S | _ => .bad
theorem so_none : SO X E none oNone := po_imp po_none fun σ H Q h => by
  obtain ⟨m, fr, S, at_, h⟩ := h
  exact h m none H (.refl _ _) at_.s rfl
theorem so_some (h : SE X E e f) : SO X E (some e) (oSome f) := po_imp (po_some h) fun σ H Q h => by
  obtain ⟨m, fr, S, at_, h⟩ := h
  refine ⟨m, fr, S, at_, POk.bind h fun d S1 m1 v H1 e g s r p => ?_⟩
  cases d with
  | int i => simp only [RD, Rep] at r; exact ⟨i, r, p m1 _ H1 (.refl _ _) s rfl⟩
  | _ => exact p.elim
def cutD (xs : List D) (lo hi : Option Int) : List D := (xs.drop (HT.sIx xs.length 0 lo)).take (HT.sIx xs.length xs.length hi - HT.sIx xs.length 0 lo)
theorem RepL.cut {K : PySem.W.Frag} {H : Hp} {m : Mp} {ds : List D} {vs : List V} {lo hi : Option Int} (h : RepL K H m ds vs) : RepL K H m (cutD ds lo hi) (cutV vs lo hi) := by
  unfold cutD cutV
  rw [h.length]
  exact (h.drop _).take _
theorem cut_whole {xs : List D} {lo hi : Option Int} (h : HT.sIx xs.length 0 lo = 0 ∧ HT.sIx xs.length xs.length hi = xs.length) : cutD xs lo hi = xs := by
  unfold cutD
  rw [h.1, h.2]
  simp
def slcD (d : D) (lo hi : Option Int) (S : Sto) : Res D := match d with
  | .tup xs => .ok (.tup (cutD xs lo hi)) S
  | .str z => if z.length ≤ sz then .ok (.str (cutS z lo hi)) S else .bad
  | d => (match lstOf S d with | some xs => .ok (.lst (cutD xs lo hi)) S | none => .bad)
def eSlc (f : ME) (lo hi : MO) : ME := fun fr S => (f fr S).bind fun d S => (lo fr S).bind fun a S => (hi fr S).bind fun b S => slcD d a b S
def rSlAll (K : PySem.W.Frag) : V → Option Int → Option Int → Hp → VK → Prop := fun x lo hi H Q => rSlA K x lo hi H Q ∨ rSlL K x lo hi H Q ∨ rSlS x lo hi H Q
theorem sl_all : SlR X (rSlAll X.K) := sl_tupA.or (sl_list.or sl_str)
theorem se_slc {lo hi : Option Expr} {tl th : MO} {p2 : Pos} (he : SE X E e f) (hl : SO X E lo tl) (hu : SO X E hi th) : SE X E (.Subscript e (.Slice lo hi none p2) pos) (eSlc f tl th) :=
  pe_imp (pe_slice sl_all he hl hu) fun σ H Q h => by
    obtain ⟨m, fr, S, at_, h⟩ := h
    refine ⟨m, fr, S, at_, POk.bind h fun d S1 m1 v H1 e1 g1 s1 r1 p1 => ?_⟩
    refine ⟨m1, fr, S1, ⟨at_.f.mono g1, s1⟩, POk.bind p1 fun a S2 m2 a' H2 e2 g2 s2 r2 p2 => ?_⟩
    refine ⟨m2, fr, S2, ⟨at_.f.mono (g1.trans g2), s2⟩, POk.bind p2 fun b S3 m3 b' H3 e3 g3' s3 r3 p3 => ?_⟩
    subst r2; subst r3
    have rd := r1.mono (g2.trans g3')
    unfold slcD at p3
    split at p3
    · rename_i xs
      have rd0 := rd
      simp only [RD, Rep] at rd
      obtain ⟨ad, vs, rfl, t, r⟩ := rd
      refine .inl ⟨ad, vs, rfl, t.sq, fun hw => ?_, fun hw q hq => p3 m3 _ _ (.new hq) (s3.new hq) (.newTup hq r.cut)⟩
      rw [r.length] at hw
      rw [cut_whole hw] at p3
      exact p3 m3 _ H3 (.refl _ _) s3 rd0
    · simp only [RD, Rep] at rd
      split at p3
      · rename_i hz
        exact .inr (.inr ⟨_, rd, sz_ok hz, p3 m3 _ H3 (.refl _ _) s3 (by simp only [RD, Rep])⟩)
      · exact p3.elim
    · split at p3
      · rename_i xs hS
        obtain ⟨ad, vs, rfl, hq, r⟩ := lst_at s3 rd hS
        exact .inr (.inl ⟨ad, vs, rfl, .of hq, fun q hq => p3 m3 _ _ (.new hq) (s3.new hq) (.newLst s3 hq r.cut)⟩)
      · exact p3.elim
end
end Py
set_option maxRecDepth 100000
set_option maxHeartbeats 1000000
namespace Py
open PySem PySem.Spec PyProof.Rows L2
open PySem.AutoSeq1 (wpAny_loadPart')
open PySem.MeetsSeq PySem.MeetsSeq2 PySem.MeetsSeq3 in
theorem tuple_mul_same (l : Addr) (items : Array Value) (n : Nat) (dd : Option Addr) (sl : Array (Option Value)) (x : Int) (u : Tok) (c0 : (decide (x < -(2 ^ 63)) || decide (x ≥ 2 ^ 63)) = false) (c1 : (items.isEmpty || x == 1) = true) :
    Meets (Builtin.«tuple.__mul__» ⟨[.ref l, .int x u], []⟩) (fun _ R s => s.heap.get? l = some { cls := .type "tuple", dict := dd, data := .seq items n, slots := sl } ∧ R (.ok (.ret (.ref l))) s) :=
  .of_wp fun prog w A R s h => by
    obtain ⟨hp, g, d, tk, os⟩ := s
    obtain ⟨hl, h⟩ := h
    have f1 := AutoSeq1.idx_int
    wp_walk using wpAny_loadPart' hl
    repeat (first
      | (refine wpAny_ite_false (decide_eq_false (by rw [c0]; exact Bool.false_ne_true)) ?_; wp_walk using wpAny_loadPart' hl)
      | (refine wpAny_ite_true (decide_eq_true (by rw [c1])) ?_; wp_walk using wpAny_loadPart' hl)
      | (refine wpAny_ite_true (decide_eq_true (by decide)) ?_; wp_walk using wpAny_loadPart' hl))
    exact ⟨_, rfl, h⟩
open PySem.MeetsSeq PySem.MeetsSeq2 PySem.MeetsSeq3 in
theorem tuple_mul_none (l : Addr) (items : Array Value) (n : Nat) (dd : Option Addr) (sl : Array (Option Value)) (x : Int) (u : Tok) (c0 : (decide (x < -(2 ^ 63)) || decide (x ≥ 2 ^ 63)) = false) (c1 : (items.isEmpty || x == 1) = false) (c2 : (decide (x ≤ 0) || items.isEmpty) = true) :
    Meets (Builtin.«tuple.__mul__» ⟨[.ref l, .int x u], []⟩) (fun _ R s => s.heap.get? l = some { cls := .type "tuple", dict := dd, data := .seq items n, slots := sl } ∧
      R (.ok (.ret (Value.ref s.heap.objs.size))) { s with heap := s.heap.push { cls := Value.type "tuple", data := Data.seq #[] }, toks := s.toks }) :=
  .of_wp fun prog w A R s h => by
    obtain ⟨hp, g, d, tk, os⟩ := s
    obtain ⟨hl, h⟩ := h
    have f1 := AutoSeq1.idx_int
    wp_walk using wpAny_loadPart' hl
    repeat (first
      | (refine wpAny_ite_false (decide_eq_false (by rw [c0]; exact Bool.false_ne_true)) ?_; wp_walk using wpAny_loadPart' hl)
      | (refine wpAny_ite_false (decide_eq_false (by rw [c1]; exact Bool.false_ne_true)) ?_; wp_walk using wpAny_loadPart' hl)
      | (refine wpAny_ite_true (decide_eq_true (by rw [c2])) ?_; wp_walk using wpAny_loadPart' hl))
    exact ⟨_, rfl, h⟩
section
variable {X : Cx}
/-- t * k, k from 0 on -/
def rRepA (K : PySem.W.Frag) : R2 := fun x y H Q => ∃ l k xs, x = .ref l ∧ y = .int k ∧ SqT K H l xs ∧ 0 ≤ k ∧ k ≤ 1000 ∧ xs.length ≤ 1000 ∧ (xs = [] ∨ k = 1 → Q (.ref l) H) ∧
  (xs ≠ [] → k ≠ 1 → ∀ p, H p = none → Q (.ref p) (upd H p (.tup (List.replicate k.toNat xs).flatten)))
theorem op_repA : OpR X (binaryOp .Mult) (rRepA X.K) := by
  rintro pins s σ H x y v u Q I rx ry ⟨l, k, xs, rfl, rfl, hT, k0, k1, hz, q1, q2⟩
  by_cases hbig : xs ≠ [] ∧ 2 ≤ k
  · exact op_repT pins s σ H _ _ v u Q I rx ry ⟨l, k, xs, rfl, rfl, hT, hbig.1, hbig.2, k1, hz, q2 hbig.1 (by omega)⟩
  · cases rx
    obtain ⟨t, rfl⟩ := ry
    obtain ⟨its, r, ⟨⟨cls, dd, data, sl⟩, ho, hc, n, hd⟩, hs⟩ := I.tuple hT
    simp only at hc hd
    subst hc hd
    have hle : its.length = xs.length := r.length.symm
    have c0 : (decide (k < -(2 ^ 63)) || decide (k ≥ 2 ^ 63)) = false := by
      rw [decide_eq_false (by omega), decide_eq_false (by omega)] <;> rfl
    by_cases h1 : xs = [] ∨ k = 1
    · have c1 : (its.toArray.isEmpty || k == 1) = true := by
        rcases h1 with h1 | h1
        · rw [h1] at hle
          have : its = [] := List.eq_nil_of_length_eq_zero hle
          rw [this]; rfl
        · rw [h1]; simp
      refine wpAny_binaryOp_repeat_ref (T := "tuple") (U := "int") (by decide) ⟨_, ho, rfl⟩ (fun s' => typeIs_int s' k t) noFill_tuple_mul F.fills_int_mul F.slot_int_rmul repeat_tuple F.slot_int_index.lookup ?_
      refine call_meets F.slot_int_rmul (typeIs_int s k t) F.entry_int_rmul (F.args_int_rmul_2 _ _) (int_rmul_tuple k t l its.toArray n dd sl) ⟨ho, rfl, ⟨_, ho, rfl⟩, ?_⟩
      refine call_meets F.slot_tuple_mul ⟨_, ho, rfl⟩ F.entry_tuple_mul (F.args_tuple_mul_2 _ _) (tuple_mul_same l its.toArray n dd sl k t c0 c1) ⟨ho, ?_⟩
      exact ⟨.ref l, H, I, rfl, q1 h1⟩
    · have hne : xs ≠ [] := fun e => h1 (.inl e)
      have hk : k = 0 := by
        have : ¬ 2 ≤ k := fun z => hbig ⟨hne, z⟩
        have : k ≠ 1 := fun z => h1 (.inr z)
        omega
      have hi : its.toArray.isEmpty = false := by
        cases its with
        | nil => exact absurd (List.eq_nil_of_length_eq_zero hle.symm) hne
        | cons a b => rfl
      have c1 : (its.toArray.isEmpty || k == 1) = false := by rw [hi, hk]; rfl
      have c2 : (decide (k ≤ 0) || its.toArray.isEmpty) = true := by rw [hk]; rfl
      refine wpAny_binaryOp_repeat_ref (T := "tuple") (U := "int") (by decide) ⟨_, ho, rfl⟩ (fun s' => typeIs_int s' k t) noFill_tuple_mul F.fills_int_mul F.slot_int_rmul repeat_tuple F.slot_int_index.lookup ?_
      refine call_meets F.slot_int_rmul (typeIs_int s k t) F.entry_int_rmul (F.args_int_rmul_2 _ _) (int_rmul_tuple k t l its.toArray n dd sl) ⟨ho, rfl, ⟨_, ho, rfl⟩, ?_⟩
      refine call_meets F.slot_tuple_mul ⟨_, ho, rfl⟩ F.entry_tuple_mul (F.args_tuple_mul_2 _ _) (tuple_mul_none l its.toArray n dd sl k t c0 c1 c2) ⟨ho, ?_⟩
      refine ⟨.ref s.heap.objs.size, _, I.laid (t' := s.toks) (o := .tup (List.replicate k.toNat xs).flatten) (fun b ob q => Heap.get?_push_of_some _ q) (Nat.le_refl _) ?_, rfl, q2 hne (by omega) _ (I.hok.fresh (Nat.le_refl _))⟩
      rw [hk]
      exact ⟨by simp, [], .nil, IsTup.new _ _⟩
/-- * -/
def smallI (i : Int) : Prop := -(2 ^ 64) < i ∧ i < 2 ^ 64
noncomputable instance (i : Int) : Decidable (smallI i) := Classical.propDecidable _
def repD (k : Nat) (xs : List D) : List D := (List.replicate k xs).flatten
open Classical in
noncomputable def mulD : D → D → Sto → Res D
  | .int i, .int j, S => if smallI i ∨ smallI j then .ok (.int (i * j)) S else .bad
  | .tup xs, .int k, S => if 0 ≤ k ∧ k ≤ 1000 ∧ xs.length ≤ 1000 then .ok (.tup (repD k.toNat xs)) S else .bad
  | d, .int k, S => (match lstOf S d with | some xs => if 0 ≤ k ∧ k ≤ 1000 ∧ xs.length ≤ 1000 then .ok (.lst (repD k.toNat xs)) S else .bad | none => .bad)
  | _, _, _ => .bad
def rMulA (K : PySem.W.Frag) : R2 := fun x y H Q => rI CMul (fun i j => .int (i * j)) x y H Q ∨ rRepA K x y H Q ∨ rRep x y H Q
theorem op_mulA : OpR X (binaryOp .Mult) (rMulA X.K) := op_mul.or (op_repA.or op_rep)
theorem RepL.rep {K : PySem.W.Frag} {H : Hp} {m : Mp} {ds : List D} {vs : List V} (r : RepL K H m ds vs) : ∀ k : Nat, RepL K H m (repD k ds) (List.replicate k vs).flatten
  | 0 => .nil
  | k + 1 => by
    show RepL K H m (ds ++ repD k ds) (vs ++ (List.replicate k vs).flatten)
    exact r.append (r.rep k)
theorem repD_nil (k : Nat) : repD k [] = [] := by unfold repD; simp
theorem repD_one (xs : List D) : repD 1 xs = xs := by simp [repD]
theorem o_mul : Op2 (g3 X) X.mg (rMulA X.K) mulD := by
  intro E σ m H S x y v u Q s rx ry p
  unfold mulD at p
  split at p
  · simp only [Rep] at rx ry
    split at p
    · rename_i h
      exact .inl ⟨_, _, rx, ry, h, p m _ H (.refl _ _) s (by simp only [RD, Rep])⟩
    · exact p.elim
  · rename_i xs k
    split at p
    · rename_i h
      have rx0 := rx
      simp only [Rep] at rx ry
      obtain ⟨a, vs, rfl, t, r⟩ := rx
      refine .inr (.inl ⟨a, k, vs, rfl, ry, t.sq, h.1, h.2.1, by rw [r.length]; exact h.2.2, fun e => ?_, fun _ _ q hq => p m _ _ (.new hq) (s.new hq) (.newTup hq (r.rep _))⟩)
      have : repD k.toNat xs = xs := by
        rcases e with e | e
        · have : xs = [] := List.length_eq_zero_iff.1 (by rw [← r.length, e]; rfl)
          rw [this, repD_nil]
        · rw [e]; exact repD_one xs
      rw [this] at p
      exact p m _ H (.refl _ _) s rx0
    · exact p.elim
  · rename_i k hn1 hn2
    simp only [Rep] at ry
    split at p
    · rename_i xs hS
      split at p
      · rename_i h
        obtain ⟨a, vs, rfl, hq, r⟩ := lst_at s rx hS
        refine .inr (.inr ⟨a, k, vs, rfl, ry, hq, by omega, by omega, ?_, fun q hq => p m _ _ (.new hq) (s.new hq) (.newLst s hq (r.rep _))⟩)
        rw [r.length, sizeLine_eq]
        have : xs.length * k.toNat ≤ 1000 * 1000 := Nat.mul_le_mul h.2.2 (by omega)
        omega
      · exact p.elim
    · exact p.elim
  · exact p.elim
end
/-! ### objects of the store change -/
theorem RepO.notTup {G : W3} {H : Hp} {m : Mp} {a : Addr} {o : O} (r : RepO G H m a o) : ∀ xs, H a ≠ some (.tup xs) := by
  intro xs h
  cases o with
  | lst ds => obtain ⟨vs, e, _⟩ := r; rw [h] at e; cases e
  | dS ds => obtain ⟨vs, e, _⟩ := r; rw [h] at e; cases e
  | dP ds => obtain ⟨xs, vs, e, _⟩ := r; rw [h] at e; cases e
  | ins C ds => obtain ⟨dx, vs, e, _⟩ := r; rw [h] at e; cases e
theorem Grow.put {m : Mp} {H : Hp} {a : Addr} {u : HO} (ha : a ∈ m.at_) (hk : ∀ xs, H a ≠ some (.tup xs)) : Grow m H m (upd H a u) :=
  ⟨⟨[], by simp, by simp⟩, ⟨[], by simp, by simp⟩, fun b o e hn => by rw [upd_ne (fun z : b = a => hn (by rw [z]; exact ha))]; exact e, fun b xs e => by rw [upd_ne (fun z : b = a => hk xs (by rw [← z]; exact e))]; exact e,
    fun b e => by
      by_cases z : b = a
      · subst z; rw [upd_same]; simp
      · rw [upd_ne z]; exact e⟩
theorem Sim.put {G : W3} {H : Hp} {m : Mp} {S : Sto} (s : Sim G H m S) {n : Nat} {a : Addr} {u : HO} {o : O} (hn : m.at_[n]? = some a) (hk : ∀ xs, H a ≠ some (.tup xs)) (hr : RepO G (upd H a u) m a o) : Sim G (upd H a u) m (S.set n o) := by
  have ha : a ∈ m.at_ := List.mem_of_getElem? hn
  refine ⟨by simp [s.len], s.nd, fun b hb => ⟨(s.hid b hb).1, (Grow.put (u := u) ha hk).live b (s.hid b hb).2⟩, fun k b o' h1 h2 => ?_⟩
  by_cases hkn : k = n
  · subst hkn
    rw [hn] at h1
    cases h1
    have hl : k < S.length := by rw [← s.len]; exact (List.getElem?_eq_some_iff.1 hn).1
    rw [List.getElem?_set_self hl] at h2
    cases h2
    exact hr
  · rw [List.getElem?_set_ne (Ne.symm hkn)] at h2
    have hb : b ≠ a := fun z => by
      subst z
      exact hkn (nd_ix s.nd h1 hn)
    exact RepO.mono (.put ha hk) (fun w e => by rw [upd_ne hb]; exact e) (s.at_ k b o' h1 h2)
/-! ### methods of lists -/
def eMethL (op : D → List D → Sto → Res D) (f : ME) (g : MA) : ME := fun fr S => (f fr S).bind fun d S => match lstOf S d with | none => .bad | some _ => (g fr S).bind fun xs S => op d xs S
def OpM (G : W3) (mg : Str → Option Value) (r : V → List V → Hp → VK → Prop) (sem : D → List D → Sto → Res D) : Prop :=
  ∀ (E : WX) (σ : L2.St) (m : Mp) (H : Hp) (S : Sto) (x : D) (v : V) (xs : List D) (vs : List V) (Q : VK), Sim G H m S → Rep G.K H m x v → RepL G.K H m xs vs → POk (RD G) G mg E σ m H Q (sem x xs S) → r v vs H Q
section
variable {X : Cx} {E : WX} {o e : Expr} {es : List Expr} {f : ME} {g : MA} {apos cpos : Pos} {name : Str} {id : String}
theorem methL_of {op : D → List D → Sto → Res D} {r : V → List V → Hp → VK → Prop} (h1 : OpM (g3 X) X.mg r op) {σ : L2.St} {H : Hp} {Q : VK} (h : tE (g3 X) X.mg E (eMethL op f g) σ H Q) : tBM X.K "list" r (tE (g3 X) X.mg E f) (tA (g3 X) X.mg E g) σ H Q := by
  obtain ⟨m, fr, S, at_, h⟩ := h
  refine ⟨m, fr, S, at_, POk.bind h fun d S1 m1 v H1 e1 g1 s1 r1 p1 => ?_⟩
  split at p1
  · exact p1.elim
  · rename_i ds hS
    obtain ⟨a, vs, rfl, hq, r⟩ := lst_at s1 r1 hS
    refine ⟨.inl ⟨rfl, vs, .of hq⟩, m1, fr, S1, ⟨at_.f.mono g1, s1⟩, POk.bind p1 fun xs S2 m2 us H2 e2 g2 s2 r2 p2 => ?_⟩
    exact h1 E σ m2 H2 S2 d _ xs us Q s2 (r1.mono g2) r2 p2
theorem methL0_of {op : D → List D → Sto → Res D} {r : V → List V → Hp → VK → Prop} (h1 : OpM (g3 X) X.mg r op) {σ : L2.St} {H : Hp} {Q : VK} (h : tE (g3 X) X.mg E (eMethL op f aNil) σ H Q) : tBM0 X.K "list" r (tE (g3 X) X.mg E f) σ H Q := by
  obtain ⟨m, fr, S, at_, h⟩ := h
  refine ⟨m, fr, S, at_, POk.bind h fun d S1 m1 v H1 e1 g1 s1 r1 p1 => ?_⟩
  split at p1
  · exact p1.elim
  · rename_i ds hS
    obtain ⟨a, vs, rfl, hq, r⟩ := lst_at s1 r1 hS
    refine ⟨.inl ⟨rfl, vs, .of hq⟩, ?_⟩
    exact h1 E σ m1 H1 S1 d _ [] [] Q s1 r1 .nil p1
theorem se_methL {op : D → List D → Sto → Res D} {r : V → List V → Hp → VK → Prop} (slot : Slot "list" name id) (hty : typeOf (.builtin id) = pure (.type "method_descriptor")) (hm : MtR X id r) (h1 : OpM (g3 X) X.mg r op) (ho : SE X E o f) (ha : SA X E (e :: es) g)
    (hbase : attributeBase o name X.env (eval o X.env) = eval o X.env := by rfl)
    (hfew : ((backTo cpos (starEach (e :: es) X.env)).all (fun x => !x.1) && (backToKw cpos (keywordEach [] X.env)).all (fun x => x.1.isSome) && decide ((e :: es).length + ([] : List Keyword).length + (if ([] : List Keyword).isEmpty then 0 else 1) < 30)) = true := by rfl)
    (hline : (apos.endLine == cpos.line) = true := by rfl) (hs : starEach (e :: es) X.env = (false, eval e X.env) :: starEach es X.env := by rfl) (hplain : (backTo cpos (starEach es X.env)).any (·.1) = false := by rfl) :
    SE X E (.Call (.Attribute o name apos) (e :: es) [] cpos) (eMethL op f g) := pe_imp (pe_bm PySem.F.plainAttrs_list slot hty hm ho ha hbase hfew hline hs hplain) fun _ _ _ h => methL_of h1 h
theorem se_methL0 {op : D → List D → Sto → Res D} {r : V → List V → Hp → VK → Prop} (slot : Slot "list" name id) (hty : typeOf (.builtin id) = pure (.type "method_descriptor")) (hm : MtR X id r) (h1 : OpM (g3 X) X.mg r op) (ho : SE X E o f)
    (hbase : attributeBase o name X.env (eval o X.env) = eval o X.env := by rfl) (hline : (apos.endLine == cpos.line) = true := by rfl) :
    SE X E (.Call (.Attribute o name apos) [] [] cpos) (eMethL op f aNil) := pe_imp (pe_bm0 PySem.F.plainAttrs_list slot hty hm ho hbase hline) fun _ _ _ h => methL0_of h1 h
def appendD : D → List D → Sto → Res D
  | .ref n, [y], S => (match S[n]? with | some (.lst ds) => if ds.length < sz then .ok .non (S.set n (.lst (ds ++ [y]))) else .bad | _ => .bad)
  | _, _, _ => .bad
theorem o_append : OpM (g3 X) X.mg rAppend appendD := by
  intro E σ m H S x v xs vs Q s rx r p
  unfold appendD at p
  split at p
  · rename_i n y
    split at p
    · rename_i ds hS
      split at p
      · rename_i hl
        simp only [Rep] at rx
        obtain ⟨a, rfl, ha⟩ := rx
        simp only [RepL] at r
        obtain ⟨w, rr, rfl, r1, rfl⟩ := r
        obtain ⟨us, hq, r2⟩ := s.lst ha hS
        have hk : ∀ xs, H a ≠ some (.tup xs) := fun xs z => by rw [hq] at z; cases z
        have g := Grow.put (u := .lst (us ++ [w])) (List.mem_of_getElem? ha) hk
        refine ⟨a, us, w, rfl, rfl, hq, by rw [r2.length]; exact sz_lt hl, p m _ _ g (s.put ha hk ⟨_, upd_same, ?_⟩) (by simp only [RD, Rep])⟩
        exact RepL.append (r2.mono g) (.one (r1.mono g))
      · exact p.elim
    · exact p.elim
  · exact p.elim
open PySem.MeetsSeq PySem.MeetsSeq2 PySem.MeetsSeq3 PySem.AutoSeq1 in
theorem list_ext_tup (l : Addr) (items : Array Value) (n : Nat) (b : Addr) (items2 : Array Value) (n2 : Nat) (dd : Option Addr) (sl : Array (Option Value)) (hs0 : ¬(!items.isEmpty && Builtin.List.listTooLong (items.size + items2.size)) = true) (hs1 : items.size ≤ sizeLine) (hs2 : items.size + items2.size ≤ sizeLine + 1) :
    Meets (Builtin.«list.extend» ⟨[.ref l, .ref b], []⟩) (fun _ R s => s.heap.get? l = some { cls := .type "list", dict := none, data := .seq items n, slots := #[] } ∧ s.heap.get? b = some { cls := .type "tuple", dict := dd, data := .seq items2 n2, slots := sl } ∧
      R (.ok (.ret Value.none)) { s with heap := s.heap.update l (Obj.mapSeq fun x => x ++ items2), toks := s.toks }) :=
  .of_wp fun prog w A R s h => by
    obtain ⟨hp, g, d, tk, os⟩ := s
    obtain ⟨hl, hb, h⟩ := h
    have f1 := idx_int
    have f2 := AutoSeq1.sub_tuple_tuple
    have f3 := AutoSeq1.sub_list_list
    have f4 := AutoSeq1.sub_tuple_list
    have f5 := AutoSeq1.sub_list_tuple
    have hz' : (items ++ items2).size ≤ sizeLine + 1 := by
      rw [Array.size_append]
      exact hs2
    wp_walk using (wpAny_updateSeq hl rfl (hz := hs1) (_hz' := hz')), wpAny_loadPart' hl, wpAny_loadPart' hb
    exact ⟨_, rfl, h⟩
/-- xs.extend(e), e a list or a tuple -/
def rExtA (K : PySem.W.Frag) : V → List V → Hp → VK → Prop := fun x vs H Q => rExtend x vs H Q ∨ ∃ l b xs zs, x = .ref l ∧ vs = [.ref b] ∧ H l = some (.lst xs) ∧ SqT K H b zs ∧ xs.length + zs.length ≤ sizeLine ∧ Q .non (upd H l (.lst (xs ++ zs)))
theorem mt_extA : MtR X "list.extend" (rExtA X.K) := by
  refine MtR.or mt_extend ?_
  rintro pins s σ H x vs v us Q I rx rv ⟨l, b, xs, zs, rfl, rfl, hH, hB, hz, q⟩
  cases rx
  obtain ⟨u, rfl, ru⟩ := rv.one
  cases ru
  obtain ⟨z, its, n, r, hl, e⟩ := I.lstM hH
  obtain ⟨its2, r2, ⟨⟨cls, dd, data, sl⟩, ho, hc, n2, hd⟩, hs⟩ := I.tuple hB
  simp only at hc hd
  subst hc hd
  have hl2 := r2.length
  have hsz : its.toArray.size + its2.toArray.size ≤ sizeLine := by rw [List.size_toArray, List.size_toArray]; omega
  have hlong : ¬ (!its.toArray.isEmpty && Builtin.List.listTooLong (its.toArray.size + its2.toArray.size)) = true := by
    rw [notLongL hsz, Bool.and_false]; simp
  refine call_meets F.slot_list_extend ⟨_, e, rfl⟩ F.entry_list_extend (F.args_list_extend_2 _ _) (list_ext_tup l its.toArray n b its2.toArray n2 dd sl hlong (by rw [List.size_toArray]; omega) (by omega)) ⟨e, ho, ?_⟩
  exact ⟨.non, _, I.lset (its' := its ++ its2) hH e (by simp) (r.append r2) (by rw [List.length_append]; omega), rfl, q⟩
def extendD : D → List D → Sto → Res D
  | .ref n, [y], S => (match S[n]?, seqOf S y with | some (.lst ds), some es => (match y with | .fz _ => .bad | _ => if ds.length + es.length ≤ sz then .ok .non (S.set n (.lst (ds ++ es))) else .bad) | _, _ => .bad)
  | _, _, _ => .bad
theorem o_extend : OpM (g3 X) X.mg (rExtA X.K) extendD := by
  intro E σ m H S x v xs vs Q s rx r p
  unfold extendD at p
  split at p
  · rename_i n y
    split at p
    · rename_i ds es hS hY
      split at p
      · exact p.elim
      · rename_i hfz
        split at p
        · rename_i hl
          simp only [Rep] at rx
          obtain ⟨a, rfl, ha⟩ := rx
          simp only [RepL] at r
          obtain ⟨w, rr, rfl, r1, rfl⟩ := r
          obtain ⟨us, hq, r2⟩ := s.lst ha hS
          have hk : ∀ xs, H a ≠ some (.tup xs) := fun xs z => by rw [hq] at z; cases z
          by_cases hL : lstOf S y = some es
          · obtain ⟨b, ws, rfl, hb, rb⟩ := lst_at s r1 hL
            have g := Grow.put (u := .lst (us ++ ws)) (List.mem_of_getElem? ha) hk
            exact .inl ⟨a, b, us, ws, rfl, rfl, hq, hb, by rw [r2.length, rb.length]; exact sz_ok hl, p m _ _ g (s.put ha hk ⟨_, upd_same, RepL.append (r2.mono g) (rb.mono g)⟩) (by simp only [RD, Rep])⟩
          · cases y with
            | tup zs =>
              cases hY
              simp only [Rep] at r1
              obtain ⟨b, ws, rfl, t, rb⟩ := r1
              have g := Grow.put (u := .lst (us ++ ws)) (List.mem_of_getElem? ha) hk
              exact .inr ⟨a, b, us, ws, rfl, rfl, hq, t.sq, by rw [r2.length, rb.length]; exact sz_ok hl, p m _ _ g (s.put ha hk ⟨_, upd_same, RepL.append (r2.mono g) (rb.mono g)⟩) (by simp only [RD, Rep])⟩
            | fz zs => exact absurd rfl (hfz zs)
            | lst zs => exact absurd hY hL
            | ref k => exact absurd hY hL
            | _ => cases hY
        · exact p.elim
    · exact p.elim
  · exact p.elim
def popD : D → List D → Sto → Res D
  | .ref n, [], S => (match S[n]? with | some (.lst ds) => (match ds[ds.length - 1]? with | some y => .ok y (S.set n (.lst ds.dropLast)) | none => .bad) | _ => .bad)
  | _, _, _ => .bad
theorem RepL.dropLast {K : PySem.W.Frag} {H : Hp} {m : Mp} {ds : List D} {vs : List V} (h : RepL K H m ds vs) : RepL K H m ds.dropLast vs.dropLast := by
  rw [List.dropLast_eq_take, List.dropLast_eq_take, h.length]
  exact h.take _
theorem o_pop : OpM (g3 X) X.mg rPop popD := by
  intro E σ m H S x v xs vs Q s rx r p
  unfold popD at p
  split at p
  · rename_i n
    split at p
    · rename_i ds hS
      split at p
      · rename_i y hy
        simp only [Rep] at rx
        obtain ⟨a, rfl, ha⟩ := rx
        simp only [RepL] at r
        subst r
        obtain ⟨us, hq, r2⟩ := s.lst ha hS
        have hk : ∀ xs, H a ≠ some (.tup xs) := fun xs z => by rw [hq] at z; cases z
        obtain ⟨w, hw, rw'⟩ := r2.get hy
        have g := Grow.put (u := .lst us.dropLast) (List.mem_of_getElem? ha) hk
        refine ⟨a, us, w, rfl, rfl, hq, by rw [r2.length]; exact hw, p m _ _ g (s.put ha hk ⟨_, upd_same, (r2.mono g).dropLast⟩) (rw'.mono g)⟩
      · exact p.elim
    · exact p.elim
  · exact p.elim
/-- xs.index(x) -/
def findP (p : PyData) : Nat → List PyData → Option Nat
  | _, [] => none
  | i, q :: qs => if PyData.eqv q p then some i else findP p (i + 1) qs
theorem findP_spec {p : PyData} : ∀ {qs : List PyData} {i j : Nat}, findP p i qs = some j → ∃ k z, j = i + k ∧ qs[k]? = some z ∧ PyData.eqv z p = true ∧ ∀ (l : Nat) z', l < k → qs[l]? = some z' → PyData.eqv z' p = false
  | [], i, j, h => by cases h
  | q :: qs, i, j, h => by
    simp only [findP] at h
    split at h
    · rename_i hq
      cases h
      exact ⟨0, q, by omega, rfl, hq, fun l z' hl => by omega⟩
    · rename_i hq
      obtain ⟨k, z, e1, e2, e3, e4⟩ := findP_spec h
      refine ⟨k + 1, z, by omega, by simpa using e2, e3, fun l z' hl hz => ?_⟩
      cases l with
      | zero => simp at hz; subst hz; simpa using hq
      | succ l => exact e4 l z' (by omega) (by simpa using hz)
def indexD (d : D) (xs : List D) (S : Sto) : Res D := match xs with
  | [y] => (match dP S d, dP S y with | some (.list qs), some p => (match findP p 0 qs with | some j => .ok (.int (j : Nat)) S | none => .bad) | _, _ => .bad)
  | _ => .bad
theorem o_index : OpM (g3 X) X.mg (rIndexD X.K) indexD := by
  intro E σ m H S x v xs vs Q s rx r p
  unfold indexD at p
  split at p
  · rename_i y
    split at p
    · rename_i qs pp e1 e2
      split at p
      · rename_i j hj
        simp only [RepL] at r
        obtain ⟨w, rr, rfl, r1, rfl⟩ := r
        obtain ⟨d1, s1⟩ := dP_dp s rx e1
        obtain ⟨d2, s2⟩ := dP_dp s r1 e2
        obtain ⟨k, z, f1, f2, f3, f4⟩ := findP_spec hj
        have : j = k := by omega
        subst this
        have hv : ∃ a, v = .ref a := by cases d1; exact ⟨_, rfl⟩
        obtain ⟨a, rfl⟩ := hv
        exact ⟨a, w, pp, qs, j, z, rfl, rfl, d1, d2, s1, s2, f2, f3, f4, p m _ H (.refl _ _) s (by simp only [RD, Rep])⟩
      · exact p.elim
    · exact p.elim
  · exact p.elim
end
/-! ### tuple(range(..)), list(range(..)) -/
abbrev MR := Fr → Sto → Res (Int × Int)
def RR : Hp → Mp → Int × Int → Int × Int → Prop := fun _ _ a b => b = a
def tR (G : W3) (mg : Str → Option Value) (E : WX) (f : MR) : L2.St → Hp → (Int → Int → Hp → Prop) → Prop := fun σ H Q => ∃ m fr S, At G H m σ fr S ∧ POk RR G mg E σ m H (fun ab H => Q ab.1 ab.2 H) (f fr S)
def SR (X : Cx) (E : WX) (e : Expr) (f : MR) : Prop := PRg X e (tR (g3 X) X.mg E f)
def r1 (f : ME) : MR := fun fr S => (f fr S).bind fun d S => match d with | .int n => .ok (0, n) S | _ => .bad
def r2 (f g : ME) : MR := fun fr S => (f fr S).bind fun d S => (g fr S).bind fun e S => match d, e with | .int i, .int j => .ok (i, j) S | _, _ => .bad
section
variable {X : Cx} {E : WX} {a b e : Expr} {f g : ME} {p pos : Pos}
theorem prg_imp {t t' : L2.St → Hp → (Int → Int → Hp → Prop) → Prop} (h : PRg X e t) (w : ∀ σ H Q, t' σ H Q → t σ H Q) : PRg X e t' := fun pins s σ H Q I q => h pins s σ H Q I (w σ H Q q)
theorem sr_1 (hg : Gl X "range") (hm : X.mg "range" = none) (ha : SE X E a f) (na : starEach [a] X.env = (false, eval a X.env) :: starEach [] X.env := by rfl) : SR X E (.Call (.Name "range" p) [a] [] pos) (r1 f) :=
  prg_imp (prg_1 hg hm ha na) fun σ H Q h => by
    obtain ⟨m, fr, S, at_, h⟩ := h
    refine ⟨m, fr, S, at_, POk.bind h fun d S1 m1 v H1 e1 g1 s1 rr p1 => ?_⟩
    cases d with
    | int n => simp only [RD, Rep] at rr; exact ⟨n, rr, p1 m1 (0, n) H1 (.refl _ _) s1 rfl⟩
    | _ => exact p1.elim
theorem sr_2 (hg : Gl X "range") (hm : X.mg "range" = none) (ha : SE X E a f) (hb : SE X E b g) (na : starEach [a, b] X.env = (false, eval a X.env) :: starEach [b] X.env := by rfl)
    (nb : starEach [b] X.env = (false, eval b X.env) :: starEach [] X.env := by rfl) (hp : (backTo pos (starEach [b] X.env)).any (·.1) = false := by rfl) : SR X E (.Call (.Name "range" p) [a, b] [] pos) (r2 f g) :=
  prg_imp (prg_2 hg hm ha hb na nb hp) fun σ H Q h => by
    obtain ⟨m, fr, S, at_, h⟩ := h
    refine ⟨m, fr, S, at_, POk.bind h fun d S1 m1 v H1 e1 g1 s1 rr p1 => ?_⟩
    refine ⟨m1, fr, S1, ⟨at_.f.mono g1, s1⟩, POk.bind p1 fun d2 S2 m2 u H2 e2 g2 s2 rr2 p2 => ?_⟩
    split at p2
    · simp only [RD, Rep] at rr rr2; exact ⟨_, _, rr, rr2, p2 m2 (_, _) H2 (.refl _ _) s2 rfl⟩
    · exact p2.elim
def rngOk (a b : Int) : Prop := 0 ≤ a ∧ a ≤ 1000000 ∧ 0 ≤ b ∧ b ≤ 1000000
noncomputable instance (a b : Int) : Decidable (rngOk a b) := Classical.propDecidable _
theorem rngOk.ok {a b : Int} (h : rngOk a b) : RgOk a b := by
  unfold rngOk at h
  exact RgOk.of_le h.1 (by omega) (by omega) h.2.2.1
theorem RepL.rng {K : PySem.W.Frag} {H : Hp} {m : Mp} (a b : Int) : RepL K H m (rngD a (b - a).toNat) (rgV a b) := by
  have : ∀ (xs : List Nat), RepL K H m (xs.map fun (i : Nat) => D.int (a + i)) (xs.map fun i => V.int (a + (i : Nat))) := by
    intro xs
    induction xs with
    | nil => exact .nil
    | cons x xs ih => exact .cons (by simp only [Rep]) ih
  exact this _
noncomputable def eTupR (f : MR) : ME := fun fr S => (f fr S).bind fun ab S => if rngOk ab.1 ab.2 then .ok (.tup (rngD ab.1 (ab.2 - ab.1).toNat)) S else .bad
noncomputable def eLstR (f : MR) : ME := fun fr S => (f fr S).bind fun ab S => if rngOk ab.1 ab.2 then .ok (.lst (rngD ab.1 (ab.2 - ab.1).toNat)) S else .bad
theorem se_tupR {f : MR} (hc : X.calm = true) (hg : Gl X "tuple") (hm : X.mg "tuple" = none) (he : SR X E e f) (na : starEach [e] X.env = (false, eval e X.env) :: starEach [] X.env := by rfl) : SE X E (.Call (.Name "tuple" p) [e] [] pos) (eTupR f) :=
  pe_imp (pe_tupRg hc hg hm he na) fun σ H Q h => by
    obtain ⟨m, fr, S, at_, h⟩ := h
    refine ⟨m, fr, S, at_, POk.bind h fun d S1 m1 v H1 e1 g1 s1 rr p1 => ?_⟩
    unfold RR at rr
    subst rr
    split at p1
    · rename_i ho
      exact ⟨ho.ok, fun q hq => p1 m1 _ _ (.new hq) (s1.new hq) (.newTup hq (.rng _ _))⟩
    · exact p1.elim
theorem se_lstR {f : MR} (hc : X.calm = true) (hg : Gl X "list") (hm : X.mg "list" = none) (he : SR X E e f) (na : starEach [e] X.env = (false, eval e X.env) :: starEach [] X.env := by rfl) : SE X E (.Call (.Name "list" p) [e] [] pos) (eLstR f) :=
  pe_imp (pe_listRg hc hg hm he na) fun σ H Q h => by
    obtain ⟨m, fr, S, at_, h⟩ := h
    refine ⟨m, fr, S, at_, POk.bind h fun d S1 m1 v H1 e1 g1 s1 rr p1 => ?_⟩
    unfold RR at rr
    subst rr
    split at p1
    · rename_i ho
      exact ⟨ho.ok, fun q hq => p1 m1 _ _ (.new hq) (s1.new hq) (.newLst s1 hq (.rng _ _))⟩
    · exact p1.elim
end
end Py
set_option maxRecDepth 100000
set_option maxHeartbeats 1000000
namespace Py
open PySem PySem.Spec PyProof.Rows L2

/-! ### what a def's text needs of the module -/
/-- a def that can be called: at most k calls deep, n arguments, by F -/
structure Callee (P : Program) (w : World) (K : PySem.W.Frag) (mg : Str → Option Value) (base : Heap) (k : Nat) (x : Str) (n : Nat) (F : List D → Sto → Res D) : Prop where
  ar : ∀ ds S, F ds S ≠ .bad → ds.length = n
  ex : ∃ fa fd ps, FnOk P w K mg base (L2N.CX P w) k fa fd ps (spF ⟨P, w, K⟩ mg n F) ∧ mg x = some (.ref fa) ∧ PySem.W.keepIn K (.ref fa) = true ∧ Binds K fd ps []
theorem se_fn {X : Cx} {E : WX} {e : Expr} {es : List Expr} {g : MA} {pos : Pos} {x : Str} {p : Pos} {k k' n : Nat} {F : List D → Sto → Res D} (C : Callee X.prog X.w X.K X.mg X.base k' x n F) (hr : Room k X.A) (hk : k' ≤ k) (hg : Gl X x) (tk : L2N.Takes X E) (ha : SA X E (e :: es) g)
    (hdb : (x == ("__debug__" : Str)) = false := by decide) (he : starEach (e :: es) X.env = (false, eval e X.env) :: starEach es X.env := by rfl) (hpl : (backTo pos (starEach es X.env)).any (·.1) = false := by rfl) :
    SE X E (.Call (.Name x p) (e :: es) [] pos) (eCall F g) := by
  obtain ⟨fa, fd, ps, h1, h2, h3, h4⟩ := C.ex
  exact se_call (h1.mono hk) C.ar hr hg h2 h3 h4 tk ha hdb he hpl
/-- f() -/
theorem se_fn0 {X : Cx} {E : WX} {pos : Pos} {x : Str} {p : Pos} {k k' : Nat} {F : List D → Sto → Res D} (C : Callee X.prog X.w X.K X.mg X.base k' x 0 F) (hr : Room k X.A) (hk : k' ≤ k) (hg : Gl X x) (tk : L2N.Takes X E) (hdb : (x == ("__debug__" : Str)) = false := by decide) :
    SE X E (.Call (.Name x p) [] [] pos) (eCall F aNil) := by
  obtain ⟨fa, fd, ps, h1, h2, h3, h4⟩ := C.ex
  constructor
  rintro pins s σ H Q I ⟨m, fr, S, at_, q⟩
  have q' : POk (RD (g3 X)) (g3 X) X.mg E σ m H Q (F [] S) := q
  have hsp : spF (g3 X) X.mg 0 F [] H Q (WE E σ) := ⟨rfl, m, S, [], at_.s, .nil, q'.sigma fun c d H h => h⟩
  apply wpAny_Call_Name_kw
  refine ld_glob I hg h2 ?_ hdb
  exact PySem.W.callWith_K0 I.kIn h3 (run_fnS (us := []) (E := WE E) (h1.mono hk) hr h4 (L2N.passAt tk σ) I .nil hsp)
theorem callee_mk {P : Program} {w : World} {K : PySem.W.Frag} {mg : Str → Option Value} {base : Heap} {k : Nat} {x qual : Str} {st : Stmt} {f : Addr} {fd : FuncData} {ps : List Str} {F : List D → Sto → Res D} (Fn : Fun K x qual st f fd) (hm : mg x = some (.ref f)) (hb : Binds K fd ps [])
    (h : FnOk P w K mg base (L2N.CX P w) k f fd ps (spF ⟨P, w, K⟩ mg ps.length F)) (ar : ∀ ds S, F ds S ≠ .bad → ds.length = ps.length) : Callee P w K mg base k x ps.length F :=
  ⟨ar, f, fd, ps, h, hm, Fn.kp, hb⟩
/-- an own exception class that is raised -/
def ExcF (K : PySem.W.Frag) (mg : Str → Option Value) (x : Str) : Prop := ∃ C, PySem.W.excIn K C [.type "ValueError", .type "Exception", .type "BaseException", .type "object"] "ValueError.__new__" = true ∧ mg x = some (.ref C) ∧ PySem.W.keepIn K (.ref C) = true ∧
  PySem.W.subIn K (.ref C) (.type "BaseException") = some true ∧ PySem.W.typeIn K (.ref C) = some (.type "type")
theorem ss_raiseE {X : Cx} {E : WX} {x m : Str} {j : Nat} {p p2 pos' pos : Pos} (F : ExcF X.K X.mg x) (hc : X.calm = true) (tk : L2N.Takes X E) (hg : Gl X x) (hdb : (x == ("__debug__" : Str)) = false := by decide) :
    SS X E (.Raise (some (.Call (.Name x p) [.Constant (.str m) j p2] [] pos')) none pos) (sRaise x) := by
  obtain ⟨C, h1, h2, h3, h4, h5⟩ := F
  exact ss_raise hc tk PySem.F.excBase_ValueError h1 h2 h3 (raises_own h4 h5) hg hdb
theorem takesF {X : Cx} : L2N.Takes X EF := fun u s' x => by
  obtain ⟨a, B, sI, pins, σ, H, cls, d, h1, h2, h3, h4, h5, h6, h7, h8, h9⟩ := x
  exact h9.elim
/-! ### leaving a def: what was made in it goes out of the store -/
mutual
def D.lower (k : Nat) : D → Bool
  | .tup ds => lowerL k ds
  | .lst ds => lowerL k ds
  | .fz ds => lowerL k ds
  | .ref n => decide (n < k)
  | _ => true
def lowerL (k : Nat) : List D → Bool
  | [] => true
  | d :: ds => d.lower k && lowerL k ds
end
def O.lower (k : Nat) : O → Bool
  | .lst ds => lowerL k ds
  | .dS kvs => lowerL k (kvs.map (·.2))
  | .dP kvs => lowerL k (kvs.map (·.2))
  | .ins _ fs => lowerL k (fs.map (·.2))
section
variable {K : PySem.W.Frag} {H : Hp} {m : Mp}
mutual
theorem Rep.lower : ∀ (d : D) (v : V), Rep K H m d v → d.lower m.at_.length = true
  | .non, v, h => by simp only [D.lower]
  | .bl b, v, h => by simp only [D.lower]
  | .int i, v, h => by simp only [D.lower]
  | .str x, v, h => by simp only [D.lower]
  | .tup ds, v, h => by
    simp only [Rep] at h
    obtain ⟨a, vs, e, t, r⟩ := h
    simp only [D.lower]
    exact RepL.lower ds vs r
  | .lst ds, v, h => by
    simp only [Rep] at h
    obtain ⟨a, vs, e, hn, t, r⟩ := h
    simp only [D.lower]
    exact RepL.lower ds vs r
  | .fz ds, v, h => by
    simp only [Rep] at h
    obtain ⟨a, vs, e, t, r⟩ := h
    simp only [D.lower]
    exact RepL.lower ds vs r
  | .ref n, v, h => by
    simp only [Rep] at h
    obtain ⟨a, e, q⟩ := h
    simp only [D.lower]
    exact decide_eq_true (List.getElem?_eq_some_iff.1 q).1
  | .adr a, v, h => by simp only [D.lower]
  | .ty n, v, h => by simp only [D.lower]
theorem RepL.lower : ∀ (ds : List D) (vs : List V), RepL K H m ds vs → lowerL m.at_.length ds = true
  | [], vs, h => by simp only [lowerL]
  | d :: ds, vs, h => by
    simp only [RepL] at h
    obtain ⟨v, r, e, h1, h2⟩ := h
    simp only [lowerL, Bool.and_eq_true]
    exact ⟨Rep.lower d v h1, RepL.lower ds r h2⟩
end
end
/-- the store's first k places alone -/
abbrev Mp.cut (m : Mp) (k : Nat) (hid : List Addr) : Mp := ⟨m.at_.take k, hid⟩
section
variable {K : PySem.W.Frag} {H : Hp} {m : Mp} {k : Nat} {hid : List Addr}
mutual
theorem Rep.cut (hh : ∀ a ∈ hid, a ∈ m.hid) : ∀ (d : D) (v : V), Rep K H m d v → d.lower k = true → Rep K H (m.cut k hid) d v
  | .non, v, h, _ => by simpa only [Rep] using h
  | .bl b, v, h, _ => by simpa only [Rep] using h
  | .int i, v, h, _ => by simpa only [Rep] using h
  | .str x, v, h, _ => by simpa only [Rep] using h
  | .tup ds, v, h, b => by
    simp only [Rep] at h ⊢
    simp only [D.lower] at b
    obtain ⟨a, vs, e, t, r⟩ := h
    exact ⟨a, vs, e, t, RepL.cutS hh ds vs r b⟩
  | .lst ds, v, h, b => by
    simp only [Rep] at h ⊢
    simp only [D.lower] at b
    obtain ⟨a, vs, e, hn, t, r⟩ := h
    exact ⟨a, vs, e, ⟨fun z => hn.1 (List.mem_of_mem_take z), fun z => hn.2 (hh a z)⟩, t, RepL.cutS hh ds vs r b⟩
  | .fz ds, v, h, b => by
    simp only [Rep] at h ⊢
    simp only [D.lower] at b
    obtain ⟨a, vs, e, t, r⟩ := h
    refine ⟨a, vs, e, ?_, RepL.cutS hh ds vs r b⟩
    rcases t with ⟨hn, t⟩ | t
    · exact .inl ⟨fun z => hn (List.mem_of_mem_take z), t⟩
    · exact .inr t
  | .ref n, v, h, b => by
    simp only [Rep] at h ⊢
    simp only [D.lower, decide_eq_true_eq] at b
    obtain ⟨a, e, q⟩ := h
    exact ⟨a, e, by rw [List.getElem?_take_of_lt b]; exact q⟩
  | .adr a, v, h, _ => by simpa only [Rep] using h
  | .ty n, v, h, _ => by simpa only [Rep] using h
theorem RepL.cutS (hh : ∀ a ∈ hid, a ∈ m.hid) : ∀ (ds : List D) (vs : List V), RepL K H m ds vs → lowerL k ds = true → RepL K H (m.cut k hid) ds vs
  | [], vs, h, _ => by simpa only [RepL] using h
  | d :: ds, vs, h, b => by
    simp only [RepL] at h ⊢
    simp only [lowerL, Bool.and_eq_true] at b
    obtain ⟨v, r, e, h1, h2⟩ := h
    exact ⟨v, r, e, Rep.cut hh d v h1 b.1, RepL.cutS hh ds r h2 b.2⟩
end
end
mutual
theorem key_below (k : Nat) : ∀ (d : D) (q : NestedKey), keyOf d = some q → d.lower k = true
  | .non, q, e => by simp only [D.lower]
  | .bl b, q, e => by simp only [D.lower]
  | .int i, q, e => by simp only [D.lower]
  | .str x, q, e => by simp only [D.lower]
  | .tup ds, q, e => by
    simp only [keyOf] at e
    cases e1 : keysOf ds with
    | none => rw [e1] at e; cases e
    | some ks => simp only [D.lower]; exact keys_below k ds ks e1
  | .lst ds, q, e => by simp [keyOf] at e
  | .fz ds, q, e => by simp [keyOf] at e
  | .ref n, q, e => by simp [keyOf] at e
  | .adr a, q, e => by simp only [D.lower]
  | .ty a, q, e => by simp only [D.lower]
theorem keys_below (k : Nat) : ∀ (ds : List D) (qs : List NestedKey), keysOf ds = some qs → lowerL k ds = true
  | [], qs, e => by simp only [lowerL]
  | d :: ds, qs, e => by
    simp only [keysOf] at e
    split at e
    · rename_i q qs' e1 e2
      simp only [lowerL, Bool.and_eq_true]
      exact ⟨key_below k d q e1, keys_below k ds qs' e2⟩
    · cases e
end
theorem RepO.lower {G : W3} {H : Hp} {m : Mp} {a : Addr} {o : O} (r : RepO G H m a o) : o.lower m.at_.length = true := by
  cases o with
  | lst ds => obtain ⟨vs, e, r⟩ := r; exact RepL.lower _ _ r
  | dS ds => obtain ⟨vs, e, r⟩ := r; exact RepL.lower _ _ r
  | dP ds => obtain ⟨xs, vs, e, k1, k2, r, k3⟩ := r; exact RepL.lower _ _ r
  | ins C ds => obtain ⟨dx, vs, e, r⟩ := r; exact RepL.lower _ _ r
theorem RepO.cut {G : W3} {H : Hp} {m : Mp} {k : Nat} {hid : List Addr} {a : Addr} {o : O} (hh : ∀ a ∈ hid, a ∈ m.hid) (r : RepO G H m a o) (b : o.lower k = true) : RepO G H (m.cut k hid) a o := by
  cases o with
  | lst ds => obtain ⟨vs, e, r⟩ := r; exact ⟨vs, e, RepL.cutS hh _ _ r b⟩
  | dS ds => obtain ⟨vs, e, r⟩ := r; exact ⟨vs, e, RepL.cutS hh _ _ r b⟩
  | dP ds =>
    obtain ⟨xs, vs, e, k1, k2, r, k3⟩ := r
    refine ⟨xs, vs, e, k1, k2, RepL.cutS hh _ _ r b, fun x hx => ?_⟩
    obtain ⟨hd, d, q1, q2⟩ := k3 x hx
    exact ⟨hd, d, q1, Rep.cut hh d _ q2 (key_below k d _ q1)⟩
  | ins C ds => obtain ⟨dx, vs, e, r⟩ := r; exact ⟨dx, vs, e, RepL.cutS hh _ _ r b⟩
/-- what was in the store ahead is as it was, or speaks of nothing new -/
def KeptS (S S2 : Sto) : Prop := S.length ≤ S2.length ∧ ∀ (i : Nat) o, i < S.length → S2[i]? = some o → S[i]? = some o ∨ o.lower S.length = true
theorem Sim.cut {G : W3} {H H2 : Hp} {m m2 : Mp} {S S2 : Sto} (s : Sim G H m S) (s2 : Sim G H2 m2 S2) (g : Grow m H m2 H2) (kp : KeptS S S2) : Sim G H2 (m2.cut S.length m.hid) (S2.take S.length) ∧ Grow m H (m2.cut S.length m.hid) H2 := by
  obtain ⟨ex, q, fx⟩ := g.pre
  obtain ⟨hx, q2, fx2⟩ := g.hid
  have hh : ∀ a ∈ m.hid, a ∈ m2.hid := fun a ha => by rw [q2]; exact List.mem_append_right _ ha
  have ht : m2.at_.take S.length = m.at_ := by rw [q, ← s.len, List.take_left]
  refine ⟨⟨?_, ?_, fun a ha => ⟨fun z => (s2.hid a (hh a ha)).1 (List.mem_of_mem_take z), (s2.hid a (hh a ha)).2⟩, fun n a o h1 h2 => ?_⟩, ⟨⟨[], by show m2.at_.take S.length = _; rw [ht]; simp, by simp⟩, ⟨[], by simp, by simp⟩, g.keep, g.tups, g.live⟩⟩
  · show (m2.at_.take S.length).length = _
    rw [ht, List.length_take, s.len]
    have := kp.1
    omega
  · show (m2.at_.take S.length).Nodup
    rw [ht]; exact s.nd
  · have h1 : (m2.at_.take S.length)[n]? = some a := h1
    have hn : n < S.length := by
      have := (List.getElem?_eq_some_iff.1 h1).1
      rw [List.length_take] at this
      omega
    rw [List.getElem?_take_of_lt hn] at h1 h2
    have r := s2.at_ n a o h1 h2
    refine r.cut hh ?_
    rcases kp.2 n o hn h2 with h | h
    · have ha : m.at_[n]? = some a := by
        rw [q, List.getElem?_append_left (by rw [s.len]; exact hn)] at h1
        exact h1
      have := (s.at_ n a o ha h).lower
      rw [s.len] at this
      exact this
    · exact h
mutual
/-- d, its new lists by value -/
inductive Dem (k : Nat) (S : Sto) : D → D → Prop
  | same {d : D} : d.lower k = true → Dem k S d d
  | tup {ds es : List D} : DemL k S ds es → Dem k S (.tup ds) (.tup es)
  | lst {ds es : List D} : DemL k S ds es → Dem k S (.lst ds) (.lst es)
  | ref {n : Nat} {ds es : List D} : k ≤ n → S[n]? = some (.lst ds) → DemL k S ds es → Dem k S (.ref n) (.lst es)
inductive DemL (k : Nat) (S : Sto) : List D → List D → Prop
  | nil : DemL k S [] []
  | cons {d e : D} {ds es : List D} : Dem k S d e → DemL k S ds es → DemL k S (d :: ds) (e :: es)
end
theorem DemL.same {k : Nat} {S : Sto} : ∀ {ds : List D}, lowerL k ds = true → DemL k S ds ds
  | [], _ => .nil
  | d :: ds, h => by
    simp only [lowerL, Bool.and_eq_true] at h
    exact .cons (.same h.1) (DemL.same h.2)
section
variable {G : W3} {H : Hp} {m : Mp} {S : Sto} {k : Nat} {hid : List Addr}
mutual
theorem Rep.dem (s : Sim G H m S) (hh : ∀ a ∈ hid, a ∈ m.hid) : ∀ {d e : D} {v : V}, Dem k S d e → Rep G.K H m d v → Rep G.K H (m.cut k hid) e v
  | _, _, v, .same b, h => Rep.cut hh _ v h b
  | _, _, v, .tup q, h => by
    simp only [Rep] at h ⊢
    obtain ⟨a, vs, e, t, r⟩ := h
    exact ⟨a, vs, e, t, RepL.dem s hh q r⟩
  | _, _, v, .lst q, h => by
    simp only [Rep] at h ⊢
    obtain ⟨a, vs, e, hn, t, r⟩ := h
    exact ⟨a, vs, e, ⟨fun z => hn.1 (List.mem_of_mem_take z), fun z => hn.2 (hh a z)⟩, t, RepL.dem s hh q r⟩
  | _, _, v, .ref (n := n) hk hS q, h => by
    simp only [Rep] at h ⊢
    obtain ⟨a, e, ha⟩ := h
    obtain ⟨vs, t, r⟩ := s.lst ha hS
    refine ⟨a, vs, e, ⟨fun z => ?_, fun z => (s.hid a (hh a z)).1 (List.mem_of_getElem? ha)⟩, t, RepL.dem s hh q r⟩
    obtain ⟨j, hj, ej⟩ := List.mem_iff_getElem.1 z
    rw [List.length_take] at hj
    have : m.at_[j]? = some a := by
      rw [List.getElem_take] at ej
      rw [List.getElem?_eq_getElem (by omega), ej]
    have := nd_ix s.nd this ha
    omega
theorem RepL.dem (s : Sim G H m S) (hh : ∀ a ∈ hid, a ∈ m.hid) : ∀ {ds es : List D} {vs : List V}, DemL k S ds es → RepL G.K H m ds vs → RepL G.K H (m.cut k hid) es vs
  | _, _, vs, .nil, h => by simpa only [RepL] using h
  | _, _, vs, .cons q qs, h => by
    simp only [RepL] at h ⊢
    obtain ⟨v, r, e, h1, h2⟩ := h
    exact ⟨v, r, e, Rep.dem s hh q h1, RepL.dem s hh qs h2⟩
end
end
/-- how a def's result is told outside -/
def Leaves (S : Sto) : Res D → Res D → Prop
  | .ok d S2, r => KeptS S S2 ∧ ∃ d', Dem S.length S2 d d' ∧ r = .ok d' (S2.take S.length)
  | .exc c S2, r => KeptS S S2 ∧ r = .exc c (S2.take S.length)
  | .bad, _ => False
theorem POk.leave {G : W3} {mg : Str → Option Value} {E : WX} {σ : L2.St} {m : Mp} {H : Hp} {Q : VK} {S : Sto} {r r' : Res D} (s : Sim G H m S) (l : Leaves S r r') (h : POk (RD G) G mg E σ m H Q r') : POk (RD G) G mg E σ m H Q r := by
  cases r with
  | bad => exact l.elim
  | exc c S2 =>
    obtain ⟨kp, rfl⟩ := l
    intro m' H' C g s' e
    obtain ⟨a, b⟩ := s.cut s' g kp
    exact h _ H' C b a e
  | ok d S2 =>
    obtain ⟨kp, d', dm, rfl⟩ := l
    intro m' v H' g s' rr
    obtain ⟨a, b⟩ := s.cut s' g kp
    obtain ⟨hx, q2, fx2⟩ := g.hid
    exact h _ v H' b a (Rep.dem s' (fun a ha => by rw [q2]; exact List.mem_append_right _ ha) dm rr)
/-- THE RULE for a def, its new objects left behind -/
theorem fn_soundD {P : Program} {w : World} {K : PySem.W.Frag} {mg : Str → Option Value} {base : Heap} {x qual : Str} {st : Stmt} {f : Addr} {fd : FuncData} {N ps : List Str} {k : Nat} {F : List D → Sto → Res D} {b : MS}
    (Fn : Fun K x qual st f fd) (Sc : FnScope N ps (defScope st))
    (hb : ∀ (cdv : Value) (A : Around) (outer : List Env) (s : Shared) (H : Hp) (E : XK), Room k (cxN P w K mg base N qual st f cdv A outer s H E).A → L2N.Takes (cxN P w K mg base N qual st f cdv A outer s H E) (EN E) →
      PassesOwn (model P w) (cxN P w K mg base N qual st f cdv A outer s H E).A (cxN P w K mg base N qual st f cdv A outer s H E).env (cxN P w K mg base N qual st f cdv A outer s H E).xe →
      SB (cxN P w K mg base N qual st f cdv A outer s H E) (EN E) (defBody st) b)
    (hF : ∀ ds S, F ds S ≠ .bad → ds.length = ps.length ∧ (bodyRes (b (startF N.length ds) S) = F ds S ∨ Leaves S (bodyRes (b (startF N.length ds) S)) (F ds S))) :
    FnOk P w K mg base (L2N.CX P w) (k + 1) f fd ps (spF ⟨P, w, K⟩ mg ps.length F) := by
  obtain ⟨oc, od, kV, doc, pm, an, cdv, ct, osl, rfl, lk, hcd⟩ := Fn.ex
  refine fn_of lk hcd Sc (fun vs H Q E h => h.1) (fun A outer s H vs Q E hr h => ?_)
  obtain ⟨hl, m, S, ds, sim, rep, h⟩ := h
  refine ⟨_, hb cdv A outer s H E hr (L2N.takes_of rfl rfl rfl rfl) (passes_of rfl), ?_⟩
  have hnb : F ds S ≠ .bad := fun e => by rw [e] at h; exact h
  obtain ⟨_, e⟩ := hF ds S hnb
  have h : POk (RD ⟨P, w, K⟩) ⟨P, w, K⟩ mg (EN E) [] m H Q (bodyRes (b (startF N.length ds) S)) := by
    rcases e with e | e
    · rw [e]; exact h
    · exact h.leave sim e
  refine ⟨m, startF N.length ds, S, ⟨rep.start, sim⟩, ?_⟩
  cases e2 : b (startF N.length ds) S with
  | nx fr S' => rw [e2] at h; exact fun m' σ' H' g a => h m' .non H' g a.s (by simp only [RD, Rep])
  | ret d S' => rw [e2] at h; exact fun m' v H' g s r => h m' v H' g s r
  | brk fr S' => rw [e2] at h; exact h.elim
  | cnt fr S' => rw [e2] at h; exact h.elim
  | exc c S' => rw [e2] at h; exact fun m' σ' H' C g s e => h m' H' C g s e
  | bad => rw [e2] at h; exact h.elim
end Py
set_option maxRecDepth 100000
set_option maxHeartbeats 1000000
namespace Py
open PySem PySem.Spec PyProof.Rows L2

/-! ### built-in names -/
structure Free (mg : Str → Option Value) : Prop where
  len_ : mg "len" = none
  range_ : mg "range" = none
  tuple_ : mg "tuple" = none
  list_ : mg "list" = none
  isinstance_ : mg "isinstance" = none
  all_ : mg "all" = none
  any_ : mg "any" = none
  min_ : mg "min" = none
  max_ : mg "max" = none
  int_ : mg "int" = none
  str_ : mg "str" = none
  bool_ : mg "bool" = none
  sorted_ : mg "sorted" = none
  enumerate_ : mg "enumerate" = none
  zip_ : mg "zip" = none
  set_ : mg "set" = none
  dict_ : mg "dict" = none
  ve_ : mg "ValueError" = none
theorem bt_len : bootBuiltins "len" = some (.builtin "len") := PySem.boot_len
theorem bt_isinstance : bootBuiltins "isinstance" = some (.builtin "isinstance") := by decide +kernel
theorem bt_all : bootBuiltins "all" = some (.builtin "all") := by decide +kernel
theorem bt_any : bootBuiltins "any" = some (.builtin "any") := by decide +kernel
theorem bt_min : bootBuiltins "min" = some (.builtin "min") := by decide +kernel
theorem bt_max : bootBuiltins "max" = some (.builtin "max") := by decide +kernel
theorem bt_sorted : bootBuiltins "sorted" = some (.builtin "sorted") := by decide +kernel
theorem bt_tuple : bootBuiltins "tuple" = some (.type "tuple") := by decide +kernel
theorem bt_list : bootBuiltins "list" = some (.type "list") := by decide +kernel
theorem bt_int : bootBuiltins "int" = some (.type "int") := by decide +kernel
theorem bt_str : bootBuiltins "str" = some (.type "str") := by decide +kernel
theorem bt_bool : bootBuiltins "bool" = some (.type "bool") := by decide +kernel
theorem bt_set : bootBuiltins "set" = some (.type "set") := by decide +kernel
theorem bt_dict : bootBuiltins "dict" = some (.type "dict") := by decide +kernel
theorem hu65 {k : Nat} {A : Around} (hr : Room k A) : A.units + 65 < cLine := by have := hr.un; omega
section
variable {X : Cx} {E : WX}
theorem op_leA : OpR X (compareOp .LtE) (fun x y H Q => rI0 (fun i j => .bl (decide (i ≤ j))) x y H Q ∨ ∃ i j, x = .str i ∧ y = .str j ∧ Q (.bl (!decide (j.cps.toList < i.cps.toList))) H) := op_le.or op_le_str
theorem op_gtA : OpR X (compareOp .Gt) (fun x y H Q => rI0 (fun i j => .bl (decide (j < i))) x y H Q ∨ ∃ i j, x = .str i ∧ y = .str j ∧ Q (.bl (decide (j.cps.toList < i.cps.toList))) H) := op_gt.or op_gt_str
theorem op_geA : OpR X (compareOp .GtE) (fun x y H Q => rI0 (fun i j => .bl (decide (j ≤ i))) x y H Q ∨ ∃ i j, x = .str i ∧ y = .str j ∧ Q (.bl (!decide (i.cps.toList < j.cps.toList))) H) := op_ge.or op_ge_str
theorem op_inA (hu : X.A.units + 65 < cLine) : OpR X (compareOp .In) (fun x y H Q => rInD X.K x y H Q ∨ rInT X.K false x y H Q) := (op_inD hu).or (op_inT hu)
theorem op_notInA (hu : X.A.units + 65 < cLine) : OpR X (compareOp .NotIn) (fun x y H Q => rNotInD X.K x y H Q ∨ rInT X.K true x y H Q) := (op_notInD hu).or (op_notInT hu)
theorem o_isn0 : Op2 (g3 X) X.mg (fun x y H Q => y = .non ∧ Q (.bl (decide (x = .non))) H) (isnD false) := fun E σ m H S x y v u Q s rx ry p => o_isn (X := X) (neg := false) E σ m H S x y v u Q s rx ry p
theorem o_isn1 : Op2 (g3 X) X.mg (fun x y H Q => y = .non ∧ Q (.bl (!decide (x = .non))) H) (isnD true) := fun E σ m H S x y v u Q s rx ry p => o_isn (X := X) (neg := true) E σ m H S x y v u Q s rx ry p
theorem se_gintE {x : Str} {i : Int} {pos : Pos} (hg : Gl X x) (hm : ∃ t, X.mg x = some (.int i t)) (hd : (x == ("__debug__" : Str)) = false := by decide) : SE X E (.Name x pos) (eC (.int i)) := by
  obtain ⟨t, hm⟩ := hm
  exact se_gint hg hm hd
theorem se_gstrE {x : Str} {i : Str} {pos : Pos} (hg : Gl X x) (hm : ∃ t, X.mg x = some (.str i t)) (hd : (x == ("__debug__" : Str)) = false := by decide) : SE X E (.Name x pos) (eC (.str i)) := by
  obtain ⟨t, hm⟩ := hm
  exact se_gstr hg hm hd
/-- a tuple of the module, written -/
def WTup (K : PySem.W.Frag) (mg : Str → Option Value) (x : Str) (d : D) : Prop := ∃ a, mg x = some (.ref a) ∧ ∀ H m, Rep K H m d (.ref a)
theorem se_gtupE {x : Str} {d : D} {pos : Pos} (hg : Gl X x) (hm : WTup X.K X.mg x d) (hd : (x == ("__debug__" : Str)) = false := by decide) : SE X E (.Name x pos) (eC d) := by
  obtain ⟨a, h1, h2⟩ := hm
  exact se_gtup hg h1 h2 hd
end
theorem ss_pass {X : Cx} {E : WX} {pos : Pos} : SS X E (.Pass pos) sNil := ps_imp ps_pass fun Dn σ H h => by
  obtain ⟨m, fr, S, at_, h⟩ := h
  exact h m σ H (.refl _ _) at_
/-- what is shown of a def's body -/
def BodyOk (P : Program) (w : World) (K : PySem.W.Frag) (mg : Str → Option Value) (base : Heap) (N : List Str) (st : Stmt) (k : Nat) (b : MS) : Prop :=
  ∀ (qual : Str) (f : Addr) (cdv : Value) (A : Around) (outer : List Env) (s : Shared) (H : Hp) (E : XK), Room k (cxN P w K mg base N qual st f cdv A outer s H E).A → L2N.Takes (cxN P w K mg base N qual st f cdv A outer s H E) (EN E) →
    PassesOwn (model P w) (cxN P w K mg base N qual st f cdv A outer s H E).A (cxN P w K mg base N qual st f cdv A outer s H E).env (cxN P w K mg base N qual st f cdv A outer s H E).xe →
    SB (cxN P w K mg base N qual st f cdv A outer s H E) (EN E) (defBody st) b
/-- a def and its function: what a caller gets -/
theorem mk_callee {P : Program} {w : World} {K : PySem.W.Frag} {mg : Str → Option Value} {base : Heap} {x : Str} {st : Stmt} {f : Addr} {fd : FuncData} {N ps : List Str} {k : Nat} {F : List D → Sto → Res D} {b : MS}
    (Fn : Fun K x x st f fd) (hm : mg x = some (.ref f)) (hbd : Binds K fd ps []) (Sc : FnScope N ps (defScope st)) (hb : BodyOk P w K mg base N st k b)
    (hF : ∀ ds S, F ds S ≠ .bad → ds.length = ps.length ∧ (bodyRes (b (startF N.length ds) S) = F ds S ∨ Leaves S (bodyRes (b (startF N.length ds) S)) (F ds S))) :
    Callee P w K mg base (k + 1) x ps.length F :=
  callee_mk Fn hm hbd (fn_soundD Fn Sc (fun cdv A outer s H E => hb x f cdv A outer s H E) hF) fun ds S h => (hF ds S h).1
end Py
set_option maxRecDepth 100000
set_option maxHeartbeats 1000000
namespace Py
open PySem PySem.Spec PyProof.Rows L2

/-! ### a def's function: its body's own -/
def demL (f : D → Option D) : List D → Option (List D)
  | [] => some []
  | d :: ds => match f d, demL f ds with | some e, some es => some (e :: es) | _, _ => none
def dem : Nat → Nat → Sto → D → Option D
  | 0, k, S, d => if d.lower k then some d else none
  | f + 1, k, S, .tup ds => (demL (dem f k S) ds).map .tup
  | f + 1, k, S, .lst ds => (demL (dem f k S) ds).map .lst
  | f + 1, k, S, .ref n => if n < k then some (.ref n) else (match S[n]? with | some (.lst ds) => (demL (dem f k S) ds).map .lst | _ => none)
  | f + 1, k, S, d => if d.lower k then some d else none
theorem demL_ok {k : Nat} {S : Sto} {f : D → Option D} (hf : ∀ d e, f d = some e → Dem k S d e) : ∀ {ds es : List D}, demL f ds = some es → DemL k S ds es
  | [], es, h => by cases h; exact .nil
  | d :: ds, es, h => by
    simp only [demL] at h
    split at h
    · rename_i e es' h1 h2
      cases h
      exact .cons (hf d e h1) (demL_ok hf h2)
    · cases h
theorem dem_ok {k : Nat} {S : Sto} : ∀ (f : Nat) (d e : D), dem f k S d = some e → Dem k S d e
  | 0, d, e, h => by
    simp only [dem] at h
    split at h
    · rename_i hl
      cases h
      exact .same hl
    · cases h
  | f + 1, d, e, h => by
    cases d with
    | tup ds =>
      simp only [dem] at h
      cases h1 : demL (dem f k S) ds with
      | none => rw [h1] at h; cases h
      | some es => rw [h1] at h; cases h; exact .tup (demL_ok (dem_ok f) h1)
    | lst ds =>
      simp only [dem] at h
      cases h1 : demL (dem f k S) ds with
      | none => rw [h1] at h; cases h
      | some es => rw [h1] at h; cases h; exact .lst (demL_ok (dem_ok f) h1)
    | ref n =>
      simp only [dem] at h
      split at h
      · rename_i hn
        cases h
        exact .same (by simp [D.lower, hn])
      · rename_i hn
        split at h
        · rename_i ds hS
          cases h1 : demL (dem f k S) ds with
          | none => rw [h1] at h; cases h
          | some es => rw [h1] at h; cases h; exact .ref (Nat.le_of_not_lt hn) hS (demL_ok (dem_ok f) h1)
        · cases h
    | _ =>
      simp only [dem] at h
      split at h
      · rename_i hl
        cases h
        exact .same hl
      · cases h
open Classical in
noncomputable def leaveR (S : Sto) : Res D → Res D
  | .ok d S2 => if KeptS S S2 then (match dem 8 S.length S2 d with | some d' => .ok d' (S2.take S.length) | none => .bad) else .bad
  | .exc c S2 => if KeptS S S2 then .exc c (S2.take S.length) else .bad
  | .bad => .bad
theorem leaveR_ok {S : Sto} {r : Res D} (h : leaveR S r ≠ .bad) : Leaves S r (leaveR S r) := by
  cases r with
  | bad => exact (h rfl).elim
  | exc c S2 =>
    simp only [leaveR] at h ⊢
    by_cases k : KeptS S S2
    · rw [if_pos k]; exact ⟨k, rfl⟩
    · rw [if_neg k] at h; exact (h rfl).elim
  | ok d S2 =>
    simp only [leaveR] at h ⊢
    by_cases k : KeptS S S2
    · rw [if_pos k] at h ⊢
      cases e : dem 8 S.length S2 d with
      | none => rw [e] at h; exact (h rfl).elim
      | some d' => exact ⟨k, d', dem_ok 8 d d' e, rfl⟩
    · rw [if_neg k] at h; exact (h rfl).elim
noncomputable def fnS (n N : Nat) (b : MS) : List D → Sto → Res D := fun ds S => if ds.length = n then bodyRes (b (startF N ds) S) else .bad
noncomputable def fnD (n N : Nat) (b : MS) : List D → Sto → Res D := fun ds S => if ds.length = n then leaveR S (bodyRes (b (startF N ds) S)) else .bad
theorem fnS_ok {n N : Nat} {b : MS} : ∀ ds S, fnS n N b ds S ≠ .bad → ds.length = n ∧ (bodyRes (b (startF N ds) S) = fnS n N b ds S ∨ Leaves S (bodyRes (b (startF N ds) S)) (fnS n N b ds S)) := by
  intro ds S h
  unfold fnS at h ⊢
  by_cases e : ds.length = n
  · rw [if_pos e]; exact ⟨e, .inl rfl⟩
  · rw [if_neg e] at h; exact (h rfl).elim
theorem fnD_ok {n N : Nat} {b : MS} : ∀ ds S, fnD n N b ds S ≠ .bad → ds.length = n ∧ (bodyRes (b (startF N ds) S) = fnD n N b ds S ∨ Leaves S (bodyRes (b (startF N ds) S)) (fnD n N b ds S)) := by
  intro ds S h
  unfold fnD at h ⊢
  by_cases e : ds.length = n
  · rw [if_pos e] at h ⊢; exact ⟨e, .inr (leaveR_ok h)⟩
  · rw [if_neg e] at h; exact (h rfl).elim
/-- where a def stands -/
structure At0 (K : PySem.W.Frag) (mg : Str → Option Value) (x : Str) (st : Stmt) (ps : List Str) : Prop where
  ex : ∃ f fd, Fun K x x st f fd ∧ mg x = some (.ref f) ∧ Binds K fd ps []
theorem callS {P : Program} {w : World} {K : PySem.W.Frag} {mg : Str → Option Value} {base : Heap} {x : Str} {st : Stmt} {N ps : List Str} {k : Nat} {b : MS} (T : At0 K mg x st ps) (Sc : FnScope N ps (defScope st)) (hb : BodyOk P w K mg base N st k b) :
    Callee P w K mg base (k + 1) x ps.length (fnS ps.length N.length b) := by
  obtain ⟨f, fd, h1, h2, h3⟩ := T.ex
  exact mk_callee h1 h2 h3 Sc hb fnS_ok
theorem callD {P : Program} {w : World} {K : PySem.W.Frag} {mg : Str → Option Value} {base : Heap} {x : Str} {st : Stmt} {N ps : List Str} {k : Nat} {b : MS} (T : At0 K mg x st ps) (Sc : FnScope N ps (defScope st)) (hb : BodyOk P w K mg base N st k b) :
    Callee P w K mg base (k + 1) x ps.length (fnD ps.length N.length b) := by
  obtain ⟨f, fd, h1, h2, h3⟩ := T.ex
  exact mk_callee h1 h2 h3 Sc hb fnD_ok
/-- the law's own promise -/
def spEnd (K : PySem.W.Frag) : Sp := fun vs H Q _ => ∃ (a : Addr) (ns : List Int), vs = [.ref a] ∧ FzAt K H ⟨[], []⟩ a (ns.map V.int) ∧ ns.length ≤ 63 ∧ ∀ H', Q (.bl true) H'
theorem end_law {P : Program} {w : World} {K : PySem.W.Frag} {mg : Str → Option Value} {base : Heap} {x : Str} {st : Stmt} {f : Addr} {fd : FuncData} {N : List Str} {k : Nat} {b : MS} (Fn : Fun K x x st f fd) (Sc : FnScope N ["script"] (defScope st)) (hb : BodyOk P w K mg base N st k b)
    (hF : ∀ ns : List Int, ns.length ≤ 63 → ∃ S, fnS 1 N.length b [.fz (ns.map .int)] [] = .ok (.bl true) S) : FnOk P w K mg base (L2N.CX P w) (k + 1) f fd ["script"] (spEnd K) := by
  refine (fn_soundD Fn Sc (fun cdv A outer s H E => hb x f cdv A outer s H E) (fnS_ok (n := 1))).imp ?_
  rintro vs H Q E ⟨a, ns, rfl, h, hl, q⟩
  obtain ⟨S, e⟩ := hF ns hl
  refine ⟨rfl, ⟨[], []⟩, [], [.fz (ns.map .int)], ⟨rfl, List.nodup_nil, by simp, fun n a o h => by simp at h⟩, .one ?_, ?_⟩
  · simp only [Rep]
    exact ⟨a, _, rfl, h, .ints' ns⟩
  · rw [e]
    intro m' v H' g s r
    simp only [RD, Rep] at r
    rw [r]
    exact q H'
/-! ### facts of the written part -/
def DefF (K : PySem.W.Frag) (x : Str) (st : Stmt) : Prop := ∃ (f : Addr) (oc : Value) (od : Option Addr) (kV dc pm : Value) (an : Option Addr) (cd ct : Value) (sl : Array (Option Value)), PySem.W.nsIn K mainGlobals x = some (some (.ref f)) ∧
  K.lookup f = some ⟨oc, od, .func (PySem.W.fnOf x x (defArgs st) (defBody st) (defScope st) .none kV dc pm an cd ct), sl⟩ ∧ PySem.W.codeIn K cd x = true ∧ PySem.W.keepIn K (.ref f) = true
theorem def_mk {K : PySem.W.Frag} {x : Str} {st : Stmt} {f : Addr} {oc : Value} {od : Option Addr} {kV dc pm : Value} {an : Option Addr} {cd ct : Value} {sl : Array (Option Value)} (a : PySem.W.nsIn K mainGlobals x = some (some (.ref f)))
    (l : K.lookup f = some ⟨oc, od, .func (PySem.W.fnOf x x (defArgs st) (defBody st) (defScope st) .none kV dc pm an cd ct), sl⟩) (c : PySem.W.codeIn K cd x = true) (k : PySem.W.keepIn K (.ref f) = true) : DefF K x st := ⟨f, oc, od, kV, dc, pm, an, cd, ct, sl, a, l, c, k⟩
theorem DefF.at0 {K : PySem.W.Frag} {h : Heap} {mg : Str → Option Value} {x : Str} {st : Stmt} {ps : List Str} (T : DefF K x st) (X : K.In h) (G : h.Ns mainGlobals mg)
    (hb : ∀ (kV doc pm : Value) (an : Option Addr) (cdv ct : Value) (us : List Value), us.length = ps.length → bindArgs (PySem.W.fnOf x x (defArgs st) (defBody st) (defScope st) .none kV doc pm an cdv ct) ⟨us, []⟩ = pure (ps.zip us)) : At0 K mg x st ps := by
  obtain ⟨f, oc, od, kV, dc, pm, an, cd, ct, sl, a, l, c, k⟩ := T
  have F := fun_mk (st := st) l c k
  exact ⟨⟨f, _, F, PySem.W.mg_of X G a, F.binds hb⟩⟩
theorem DefF.law {K : PySem.W.Frag} {h : Heap} {mg : Str → Option Value} {x : Str} {st : Stmt} {fa : Addr} (T : DefF K x st) (X : K.In h) (G : h.Ns mainGlobals mg) (hm : mg x = some (.ref fa)) :
    ∃ kV doc pm an cdv ct, Fun K x x st fa (PySem.W.fnOf x x (defArgs st) (defBody st) (defScope st) .none kV doc pm an cdv ct) := by
  obtain ⟨f, oc, od, kV, dc, pm, an, cd, ct, sl, a, l, c, k⟩ := T
  have e := hm.symm.trans (PySem.W.mg_of X G a)
  cases e
  exact ⟨kV, dc, pm, an, cd, ct, fun_mk (st := st) l c k⟩
theorem int_mk {K : PySem.W.Frag} {h : Heap} {mg : Str → Option Value} {x : Str} {i : Int} {t : Tok} (X : K.In h) (G : h.Ns mainGlobals mg) (a : PySem.W.nsIn K mainGlobals x = some (some (.int i t))) : ∃ t, mg x = some (.int i t) := ⟨t, PySem.W.mg_of X G a⟩
theorem str_mk {K : PySem.W.Frag} {h : Heap} {mg : Str → Option Value} {x : Str} {i : Str} {t : Tok} (X : K.In h) (G : h.Ns mainGlobals mg) (a : PySem.W.nsIn K mainGlobals x = some (some (.str i t))) : ∃ t, mg x = some (.str i t) := ⟨t, PySem.W.mg_of X G a⟩
theorem exc_mk {K : PySem.W.Frag} {h : Heap} {mg : Str → Option Value} {x : Str} {C : Addr} (X : K.In h) (G : h.Ns mainGlobals mg) (a : PySem.W.nsIn K mainGlobals x = some (some (.ref C))) (e : PySem.W.excIn K C [.type "ValueError", .type "Exception", .type "BaseException", .type "object"] "ValueError.__new__" = true)
    (k : PySem.W.keepIn K (.ref C) = true) (s : PySem.W.subIn K (.ref C) (.type "BaseException") = some true) (t : PySem.W.typeIn K (.ref C) = some (.type "type")) : ExcF K mg x := ⟨C, e, PySem.W.mg_of X G a, k, s, t⟩
/-- tuples of one text each, in a tuple -/
theorem tup1_mk {K : PySem.W.Frag} {a : Addr} {x : Str} {t : Tok} {dd : Option Addr} {n : Nat} {sl : Array (Option Value)} (l : K.lookup a = some ⟨.type "tuple", dd, .seq #[.str x t] n, sl⟩) : ∀ H m, Rep K H m (.tup [.str x]) (.ref a) := fun H m => by
  simp only [Rep]
  exact ⟨a, [.str x], rfl, .inr ⟨_, _, _, l, rfl, rfl, by rw [sizeLine_eq]; simp, .cons ⟨t, rfl⟩ .nil⟩, .one (by simp only [Rep])⟩
theorem plain_mk {K : PySem.W.Frag} {h : Heap} {mg : Str → Option Value} {x : Str} {a a1 a2 a3 a4 : Addr} {d1 d2 d3 d4 : D} {dd : Option Addr} {n : Nat} {sl : Array (Option Value)} (X : K.In h) (G : h.Ns mainGlobals mg) (e : PySem.W.nsIn K mainGlobals x = some (some (.ref a)))
    (l : K.lookup a = some ⟨.type "tuple", dd, .seq #[.ref a1, .ref a2, .ref a3, .ref a4] n, sl⟩) (h1 : ∀ H m, Rep K H m d1 (.ref a1)) (h2 : ∀ H m, Rep K H m d2 (.ref a2)) (h3 : ∀ H m, Rep K H m d3 (.ref a3)) (h4 : ∀ H m, Rep K H m d4 (.ref a4)) : WTup K mg x (.tup [d1, d2, d3, d4]) := by
  refine ⟨a, PySem.W.mg_of X G e, fun H m => ?_⟩
  simp only [Rep]
  exact ⟨a, [.ref a1, .ref a2, .ref a3, .ref a4], rfl, .inr ⟨_, _, _, l, rfl, rfl, by rw [sizeLine_eq]; simp, .cons rfl (.cons rfl (.cons rfl (.cons rfl .nil)))⟩, .cons (h1 H m) (.cons (h2 H m) (.cons (h3 H m) (.one (h4 H m))))⟩
theorem free_mk {K : PySem.W.Frag} {h : Heap} {mg : Str → Option Value} (X : K.In h) (G : h.Ns mainGlobals mg) (h1 : PySem.W.nsIn K mainGlobals "len" = some none) (h2 : PySem.W.nsIn K mainGlobals "range" = some none) (h3 : PySem.W.nsIn K mainGlobals "tuple" = some none) (h4 : PySem.W.nsIn K mainGlobals "list" = some none)
    (h5 : PySem.W.nsIn K mainGlobals "isinstance" = some none) (h6 : PySem.W.nsIn K mainGlobals "all" = some none) (h7 : PySem.W.nsIn K mainGlobals "any" = some none) (h8 : PySem.W.nsIn K mainGlobals "min" = some none) (h9 : PySem.W.nsIn K mainGlobals "max" = some none) (h10 : PySem.W.nsIn K mainGlobals "int" = some none)
    (h11 : PySem.W.nsIn K mainGlobals "str" = some none) (h12 : PySem.W.nsIn K mainGlobals "bool" = some none) (h13 : PySem.W.nsIn K mainGlobals "sorted" = some none) (h14 : PySem.W.nsIn K mainGlobals "enumerate" = some none) (h15 : PySem.W.nsIn K mainGlobals "zip" = some none) (h16 : PySem.W.nsIn K mainGlobals "set" = some none)
    (h17 : PySem.W.nsIn K mainGlobals "dict" = some none) (h18 : PySem.W.nsIn K mainGlobals "ValueError" = some none) : Free mg :=
  ⟨PySem.W.mg_none_of X G h1, PySem.W.mg_none_of X G h2, PySem.W.mg_none_of X G h3, PySem.W.mg_none_of X G h4, PySem.W.mg_none_of X G h5, PySem.W.mg_none_of X G h6, PySem.W.mg_none_of X G h7, PySem.W.mg_none_of X G h8, PySem.W.mg_none_of X G h9, PySem.W.mg_none_of X G h10, PySem.W.mg_none_of X G h11, PySem.W.mg_none_of X G h12, PySem.W.mg_none_of X G h13, PySem.W.mg_none_of X G h14, PySem.W.mg_none_of X G h15, PySem.W.mg_none_of X G h16, PySem.W.mg_none_of X G h17, PySem.W.mg_none_of X G h18⟩
theorem end_sp {K : PySem.W.Frag} {H : Hp} {a : Addr} {ns : List Int} (hl : ns.length ≤ 63) (ho : Only H) (hS : SqL K H a (ns.map V.int)) : spEnd K [.ref a] H (fun v _ => v = .bl true) fun _ _ _ => False := by
  refine ⟨a, ns, rfl, ?_, hl, fun _ => rfl⟩
  rcases hS with (h | ⟨o, h⟩) | h
  · rcases ho a with z | ⟨o, xs, z⟩ <;> rw [z] at h <;> cases h
  · exact .inl ⟨by simp, o, h⟩
  · exact .inr h
theorem cxn_false {P : Program} {w : World} {outer : List Env} {H : Hp} {s : Shared} {e : Value} {s' : Shared} (h : L2N.CX P w outer H s (fun _ _ _ => False) e s') : False := by
  obtain ⟨a, B, H', cls, d, h1, h2, h3, h4, h5, h6, h7, h8⟩ := h
  exact h8
end Py
set_option maxRecDepth 100000
set_option maxHeartbeats 1000000
namespace Py
open PySem PySem.Spec PyProof.Rows L2

/-! ### list.count of data -/
def rCountD (K : PySem.W.Frag) : V → List V → Hp → VK → Prop := fun x xs H Q => ∃ (a : Addr) (y : V) (d : PyData) (ds : List PyData), x = V.ref a ∧ xs = [y] ∧ Dp K H (V.ref a) (.list ds) ∧ Dp K H y d ∧
  SeqAt.shaped (.list ds) = true ∧ SeqAt.shaped d = true ∧ Q (.int ((ds.countP fun z => PyData.eqv z d : Nat) : Int)) H
theorem mt_countD {X : Cx} (room : X.A.units + 65 < cLine) : MtR X "list.count" (rCountD X.K) := by
  intro pins s σ H x xs v us Q I rx rxs h
  obtain ⟨a, y, d, ds, rfl, rfl, dl, dy, shl, shd, q⟩ := h
  cases rx
  obtain ⟨uy, rfl, ry⟩ := rxs.one
  obtain ⟨bs, rd⟩ := Dp.reads I d y uy dy ry
  have lay : PyData.canLayAll0 ds = true := SeqAt.canLay_of_shaped shl
  have rm : X.A.units + 1 + min (PyData.depthAll ds) d.depth < cLine := room_in_shaped shd room
  cases dl with
  | lst hs ha =>
    obtain ⟨items, rv, ⟨⟨cls, od, dat, slots⟩, n, ho, hc, hdn, hdt⟩, hlen⟩ := I.list hs
    simp only at hc hdt
    subst hc hdt
    obtain ⟨as, rall⟩ := Dp.readsAll I ds _ items ha rv
    have em : items.map (SeqAt.readOf s.heap) = ds := SeqAt.readsAll_map ds items as lay rall
    refine call_meets PySem.F.slot_list_count ⟨_, ho, rfl⟩ PySem.F.entry_list_count (PySem.F.args_list_count_2 _ _) (SeqAt.list_countAt a items.toArray n od slots uy (fun u => PyData.eqv (SeqAt.readOf s.heap u) d))
      ⟨ho, SeqAt.items_eqAt (vs := items.toArray) (show ReadsAll s.heap items.toArray.toList ds as from rall) rd lay (SeqAt.canLay_of_shaped shd) rm, ?_⟩
    have ec : items.toArray.toList.countP (fun u => PyData.eqv (SeqAt.readOf s.heap u) d) = ds.countP fun z => PyData.eqv z d := by
      rw [← em, List.countP_map]
      rfl
    refine ⟨.int ((ds.countP fun z => PyData.eqv z d : Nat) : Int), H, I.tok _, ⟨s.toks, ?_⟩, q⟩
    rw [← ec]
def countD (d : D) (xs : List D) (S : Sto) : Res D := match xs with
  | [y] => (match dP S d, dP S y with | some (.list qs), some p => .ok (.int ((qs.countP fun z => PyData.eqv z p : Nat) : Int)) S | _, _ => .bad)
  | _ => .bad
theorem o_count {X : Cx} : OpM (g3 X) X.mg (rCountD X.K) countD := by
  intro E σ m H S x v xs vs Q s rx r p
  unfold countD at p
  split at p
  · rename_i y
    split at p
    · rename_i qs pp e1 e2
      simp only [RepL] at r
      obtain ⟨w, rr, rfl, r1, rfl⟩ := r
      obtain ⟨d1, s1⟩ := dP_dp s rx e1
      obtain ⟨d2, s2⟩ := dP_dp s r1 e2
      have hv : ∃ a, v = .ref a := by cases d1; exact ⟨_, rfl⟩
      obtain ⟨a, rfl⟩ := hv
      exact ⟨a, w, pp, qs, rfl, rfl, d1, d2, s1, s2, p m _ H (.refl _ _) s (by simp only [RD, Rep])⟩
    · exact p.elim
  · exact p.elim
/-! ### isinstance(e, C), e the handled exception, pinned -/
def eIs (i : Nat) (a : Addr) (b : Bool) : ME := fun fr S => match fr[i]? with | some (some (.adr a')) => if a' = a then .ok (.bl b) S else .bad | _ => .bad
theorem call_isP {X : Cx} {a C : Addr} {oe : Obj} (F : ExcC X.K C) (hz : oe.cls = .ref C ∧ oe.dict = none) (hf : ∃ vs, oe.data = .fields vs) (hp : (a, oe) ∈ X.pn) : CallR X (.builtin "isinstance") (rIsE X.K C a) := by
  intro pins s σ H xs us Q I r h
  obtain ⟨c, cv, b, rfl, hcv, e, q⟩ := h
  obtain ⟨u1, u2, rfl, rx, rt⟩ := vals2 r
  cases rx
  have ec := hcv _ rt
  subst ec
  have got := (I.pin (a, oe) (List.mem_append_left _ hp)).1
  obtain ⟨vs, hv⟩ := hf
  have J : PySem.W.InstAt s.heap a oe C none := by
    obtain ⟨oc, od, oda, osl⟩ := oe
    obtain ⟨h1, h2⟩ := hz
    dsimp only at h1 h2 hv
    subst h1 h2 hv
    exact ⟨got, rfl, rfl, trivial⟩
  exact PySem.W.kia_one (PySem.W.handS_kitx_exc F.hg F.hk F.hs F.hd F.ha F.hn F.ht F.hm) I.kIn J e (fun z => nomatch z) fun tk => ⟨.bl b, H, I.tok tk, rfl, q⟩
/-- x a class of the program -/
theorem se_isE {X : Cx} {E : WX} {a C C' : Addr} {oe : Obj} {n x : Str} {b : Bool} {i : Nat} {p p2 p3 pos : Pos} (F : ExcC X.K C) (hz : oe.cls = .ref C ∧ oe.dict = none) (hf : ∃ vs, oe.data = .fields vs) (hp : (a, oe) ∈ X.pn)
    (hg : Gl X "isinstance") (hm : X.mg "isinstance" = none) (hv : bootBuiltins "isinstance" = some (.builtin "isinstance")) (h1 : PE X (.Name n p2) (tVar i)) (hgx : Gl X x) (hmx : X.mg x = some (.ref C')) (hk : PySem.W.kitOne X.K (.ref C) (.ref C') = some b) (hdx : (x == ("__debug__" : Str)) = false := by decide)
    (he : starEach [.Name n p2, .Name x p3] X.env = (false, eval (.Name n p2) X.env) :: starEach [.Name x p3] X.env := by rfl) (hpl : (backTo pos (starEach [.Name x p3] X.env)).any (·.1) = false := by rfl) :
    SE X E (.Call (.Name "isinstance" p) [.Name n p2, .Name x p3] [] pos) (eIs i a b) := by
  refine pe_imp (pe_callB (call_isP F hz hf hp) hg hm hv (pa_cons h1 (pa_cons (pe_glob hgx hmx (v := .ref C') rfl hdx) pa_nil)) (by decide) (by decide) he hpl) fun σ H Q h => ?_
  obtain ⟨m, fr, S, at_, h⟩ := h
  unfold eIs at h
  split at h
  · rename_i a' e
    split at h
    · rename_i ea
      subst ea
      obtain ⟨v, e1, r⟩ := at_.f.at_ i _ e
      simp only [Rep] at r
      subst r
      refine ⟨_, e1, ?_⟩
      exact ⟨_, .ref C', b, rfl, fun u ru => ru, hk, h m (.bl b) H (.refl _ _) at_.s (by simp only [RD, Rep])⟩
    · exact h.elim
  · exact h.elim
/-- x a built-in class -/
theorem se_isB {X : Cx} {E : WX} {a C : Addr} {oe : Obj} {n x : Str} {T : String} {b : Bool} {i : Nat} {p p2 p3 pos : Pos} (F : ExcC X.K C) (hz : oe.cls = .ref C ∧ oe.dict = none) (hf : ∃ vs, oe.data = .fields vs) (hp : (a, oe) ∈ X.pn)
    (hg : Gl X "isinstance") (hm : X.mg "isinstance" = none) (hv : bootBuiltins "isinstance" = some (.builtin "isinstance")) (h1 : PE X (.Name n p2) (tVar i)) (hgx : Gl X x) (hmx : X.mg x = none) (hvx : bootBuiltins x = some (.type T)) (hk : PySem.W.kitOne X.K (.ref C) (.type T) = some b) (hdx : (x == ("__debug__" : Str)) = false := by decide) (hnx : x ≠ "__name__" := by decide)
    (he : starEach [.Name n p2, .Name x p3] X.env = (false, eval (.Name n p2) X.env) :: starEach [.Name x p3] X.env := by rfl) (hpl : (backTo pos (starEach [.Name x p3] X.env)).any (·.1) = false := by rfl) :
    SE X E (.Call (.Name "isinstance" p) [.Name n p2, .Name x p3] [] pos) (eIs i a b) := by
  refine pe_imp (pe_callB (call_isP F hz hf hp) hg hm hv (pa_cons h1 (pa_cons (pe_bltn (v := .ty T) hgx hmx hvx rfl hnx hdx) pa_nil)) (by decide) (by decide) he hpl) fun σ H Q h => ?_
  obtain ⟨m, fr, S, at_, h⟩ := h
  unfold eIs at h
  split at h
  · rename_i a' e
    split at h
    · rename_i ea
      subst ea
      obtain ⟨v, e1, r⟩ := at_.f.at_ i _ e
      simp only [Rep] at r
      subst r
      refine ⟨_, e1, ?_⟩
      exact ⟨_, .type T, b, rfl, fun u ru => ru, hk, h m (.bl b) H (.refl _ _) at_.s (by simp only [RD, Rep])⟩
    · exact h.elim
  · exact h.elim
end Py
set_option maxRecDepth 100000
set_option maxHeartbeats 1000000
namespace Py
open PySem PySem.Spec PyProof.Rows L2

/-! ### a def that is handed the handled exception -/
structure WhichF (P : Program) (w : World) (K : PySem.W.Frag) (mg : Str → Option Value) (base : Heap) (k : Nat) (Wv : Str → Option D) : Prop where
  ex : ∃ (f : Addr) (fd : FuncData), mg "_law_which" = some (.ref f) ∧ PySem.W.keepIn K (.ref f) = true ∧ Binds K fd ["e"] [] ∧
    ∀ (A : Around) (outer : List Env) (s : Shared) (H : Hp) (args : Args) (us : List Value) (Q : VK) (E : XK) (p : Addr × Obj) (c : Str) (C : Addr) (d : D) (m : Mp) (S : Sto), L2H.RoomH k A → L2H.Hot1 A p → L2H.PinOk outer H s p → Env0 P w K mg base A outer s H →
      BindsTo s fd args (([("e" : Str)] : List Str).zip us) → Vals [.ref p.1] us → p.2.cls = .ref C ∧ p.2.dict = none → (∃ vs, p.2.data = .fields vs) → mg c = some (.ref C) → Wv c = some d → Sim ⟨P, w, K⟩ H m S →
      (∀ m' v H', Grow m H m' H' → Sim ⟨P, w, K⟩ H' m' S → Rep K H' m' d v → Q v H') → codeAny (model P w) A (.call (.ref f) args) (CR (L2N.CX P w) outer P w H s Q E) s
theorem which_mk {P : Program} {w : World} {K : PySem.W.Frag} {mg : Str → Option Value} {base : Heap} {st : Stmt} {f : Addr} {fd : FuncData} {N : List Str} {k : Nat} {Wv : Str → Option D}
    (Fn : Fun K "_law_which" "_law_which" st f fd) (hm : mg "_law_which" = some (.ref f)) (hk : PySem.W.keepIn K (.ref f) = true) (hbd : Binds K fd ["e"] []) (Sc : FnScope N ["e"] (defScope st))
    (hb : ∀ (cdv : Value) (A : Around) (outer : List Env) (s : Shared) (H : Hp) (E : XK) (p : Addr × Obj) (c : Str) (C : Addr) (d : D), L2H.Hot1 A p → L2H.RoomH k (L2H.cxH (L2N.CX P w) P w K mg base N "_law_which" (defScope st) f cdv A outer s H E p).A → p.2.cls = .ref C ∧ p.2.dict = none → (∃ vs, p.2.data = .fields vs) → mg c = some (.ref C) → Wv c = some d →
      ∃ b : MS, SB (L2H.cxH (L2N.CX P w) P w K mg base N "_law_which" (defScope st) f cdv A outer s H E p) EF (defBody st) b ∧ ∀ S, Leaves S (bodyRes (b (startF N.length [.adr p.1]) S)) (.ok d S)) :
    WhichF P w K mg base (k + 1) Wv := by
  obtain ⟨oc, od, kV, doc, pm, an, cdv, ct, osl, rfl, lk, hcd⟩ := Fn.ex
  refine ⟨f, _, hm, hk, hbd, fun A outer s H args us Q E p c C d m S hr hot hpin e0 bnd r hz hf hc hV sim hQ => ?_⟩
  have KX : K.In s.heap := e0.mod.kin.keeps fun b o e => (e0.bs b o e).1
  have lim : s.heap.NoLimit := e0.mod.nolimit.keeps fun b o e => (e0.bs b o e).1
  have par : ∀ y ∈ ([("e" : Str)] : List Str).zip us, (defScope st).names.lookup y.1 = some .local ∨ ((defScope st).names.lookup y.1 = some .cell ∧ ((cellsFrom (s.heap.objs.size + 1) (defScope st).names []).lookup y.1).isSome = true) := by
    rintro ⟨n, v⟩ hy
    rcases Sc.par n (List.of_mem_zip hy).1 with q | q
    · exact Or.inl q
    · exact Or.inr ⟨q, PySem.W.cellsFrom_some _ _ _ (Or.inl q)⟩
  refine codeAny_call_function hr.depth (KX _ _ lk) rfl Sc.co Sc.gen rfl (PySem.W.codeRec_of KX hcd) (bnd _ _ _ _ ?_)
  refine wpAny_newFunctionEnv_cells Sc.kind par fun env he s1 x => ?_
  subst he
  refine ⟨lim.keeps x.toInCall.keep, codeAny_func ?_⟩
  obtain ⟨b, hb1, hb2⟩ := hb cdv A outer s H E p c C d hot (hr.deeper _) hz hf hc hV
  have I := L2H.inv_startH (CX := L2N.CX P w) (E := E) Sc hpin e0 (vs := [.ref p.1]) rfl r x
  have rep : RepL K H m [.adr p.1] [V.ref p.1] := .cons (by simp only [Rep]) .nil
  have h0 : POk (RD ⟨P, w, K⟩) ⟨P, w, K⟩ mg EF [] m H Q (.ok d S) := fun m' v H' g s' r' => hQ m' v H' g s' r'
  have h1 : POk (RD ⟨P, w, K⟩) ⟨P, w, K⟩ mg EF [] m H Q (bodyRes (b (startF N.length [.adr p.1]) S)) := h0.leave sim (hb2 S)
  have wish : tS (g3 (L2H.cxH (L2N.CX P w) P w K mg base N "_law_which" (defScope st) f cdv A outer s H E p)) mg EF b { nx := fun _ H' => Q .non H', rt := Q } (L2.start N [.ref p.1]) H := by
    refine ⟨m, startF N.length [.adr p.1], S, ⟨rep.start, sim⟩, ?_⟩
    cases e2 : b (startF N.length [.adr p.1]) S with
    | nx fr S' => rw [e2] at h1; exact fun m' σ' H' g a => h1 m' .non H' g a.s (by simp only [RD, Rep])
    | ret d S' => rw [e2] at h1; exact fun m' v H' g s r => h1 m' v H' g s r
    | brk fr S' => rw [e2] at h1; exact h1.elim
    | cnt fr S' => rw [e2] at h1; exact h1.elim
    | exc c S' => rw [e2] at h1; exact fun m' σ' H' C g s e => h1 m' H' C g s e
    | bad => rw [e2] at h1; exact h1.elim
  refine wpAny_mono (hb1.run [] s1 (L2.start N [.ref p.1]) H _ I wish) (fun fl s' hs => ?_) fun e s' hs => hs
  cases fl with
  | ret u =>
    obtain ⟨v, σ', H', J, rv, q⟩ := hs
    exact ⟨v, H', J.os, J.bare, J.base, J.hok, rv, q⟩
  | next =>
    obtain ⟨σ', H', J, q⟩ := hs
    exact ⟨.non, H', J.os, J.bare, J.base, J.hok, rfl, q⟩
  | brk => exact hs.elim fun _ h => h.elim fun _ h => h.2.elim
  | cont => exact hs.elim fun _ h => h.elim fun _ h => h.2.elim
/-! ### try: .. except HallError as e: return _law_which(e) -/
def sTry (Wv : Str → Option D) (f : MS) : MS := fun fr S => match f fr S with
  | .exc c S' => (match Wv c with | some d => .ret d S' | none => .bad)
  | r => r
def ExcOf (K : PySem.W.Frag) (mg : Str → Option Value) (Wv : Str → Option D) (cH : Value) : Prop := ∀ c d C, Wv c = some d → mg c = some (.ref C) → PySem.W.exmOne K (.ref C) cH = some true
theorem pe_which {Y : Cx} {a : Addr} {oe : Obj} {p2 p3 q : Pos} {i k : Nat} {Wv : Str → Option D} (W : WhichF Y.prog Y.w Y.K Y.mg Y.base k Wv) (hr : L2H.RoomH k Y.A) (hot : L2H.Hot1 Y.A (a, oe)) (hp : (a, oe) ∈ Y.pn) (hf : ∃ vs, oe.data = .fields vs) (hi : Y.N[i]? = some "e") (hv : Vis Y.env.scope "e") (hg : Gl Y "_law_which")
    (he : starEach [.Name "e" p2] Y.env = (false, eval (.Name "e" p2) Y.env) :: starEach [] Y.env) (hpl : (backTo p3 (starEach [] Y.env)).any (·.1) = false) :
    PE Y (.Call (.Name "_law_which" q) [.Name "e" p2] [] p3) (fun σ H Q => σ[i]? = some (some (V.ref a)) ∧ ∃ (c : Str) (C : Addr) (r : D) (m : Mp) (S : Sto), (oe.cls = .ref C ∧ oe.dict = none) ∧ Y.mg c = some (.ref C) ∧ Wv c = some r ∧ Sim (g3 Y) H m S ∧ ∀ m' v H', Grow m H m' H' → Sim (g3 Y) H' m' S → Rep Y.K H' m' r v → Q v H') := by
  obtain ⟨fa, fd, hm, hk, hbd, run⟩ := W.ex
  refine ⟨fun pins s σ H Q I h => ?_⟩
  obtain ⟨hget, c, C, r, m, S, hz, hC, hV, sim, hq⟩ := h
  have args : PA Y [.Name "e" p2] _ := pa_cons (pe_var hi hv) pa_nil
  refine wpAny_Call_Name_kw (ld_glob I hg hm ?_ (by decide))
  refine PySem.W.callWith_K (h₀ := Y.base) I.ok.mod.kin hk (thn (args.run p3 pins s σ H (fun vs H1 => vs = [V.ref a] ∧ H1 = H) I ⟨_, hget, rfl, rfl⟩) fun us s1 hap => ?_) he hpl
  obtain ⟨vs, H1, I1, rv, rfl, rfl⟩ := hap
  refine ⟨I1.kIn, ?_⟩
  have bnd := hbd s1 us I1.kIn (by rw [List.append_nil]; exact rv.length.symm)
  rw [List.append_nil] at bnd
  have P1 := I1.pin (a, oe) (List.mem_append_left _ hp)
  have pin : L2H.PinOk Y.stack H1 s1 (a, oe) := ⟨P1.1, P1.2.1, fun z => (List.mem_cons.mp (I1.stkSub a z)).elim P1.2.2.1 P1.2.2.2.1, P1.2.2.2.2⟩
  refine wpAny_call (codeAny_mono (run Y.A Y.stack s1 H1 ⟨us, []⟩ us Q (fun _ _ _ => False) (a, oe) c C r m S hr hot pin I1.env0 bnd rv hz hf hC hV sim hq) fun res s' hres => ?_)
  cases res with
  | error e =>
    obtain ⟨_, _, _, _, _, _, _, _, _, _, _, _, z⟩ := hres
    exact z.elim
  | ok fl =>
    cases fl with
    | ret u => exact I1.after hres
    | next => exact False.elim hres
    | brk => exact False.elim hres
    | cont => exact False.elim hres
theorem ss_tryW {X : Cx} {E : WX} {body : List Stmt} {f : MS} {np pos pos' p2 p3 p4 q : Pos} {i k : Nat} {Wv : Str → Option D} {cH : Value} (W : WhichF X.prog X.w X.K X.mg X.base k Wv) (hr : Room k X.A) (hs : X.stack = X.env :: X.outer) (hf : X.env.frame = some X.env.locals) (hN : X.N.Nodup) (hi : X.N[i]? = some "e")
    (hln : X.env.kindOf "e" = some .local) (hv : Vis X.env.scope "e") (hc : L2.Names X "HallError" cH) (hx : ExcOf X.K X.mg Wv cH) (hg : Gl X "_law_which") (tk : L2N.Takes X E)
    (hb : ∀ (W : WX) (pn : List (Addr × Obj)) (xe : Value → Shared → Prop), L2N.Takes (X.tr pn xe) W → PassesOwn (model X.prog X.w) X.A X.env xe → SB (X.tr pn xe) W body f)
    (he : starEach [.Name "e" p2] X.env = (false, eval (.Name "e" p2) X.env) :: starEach [] X.env := by rfl) (hpl : (backTo p3 (starEach [] X.env)).any (·.1) = false := by rfl) :
    SS X E (.Try body [.ExceptHandler (some (.Name "HallError" np)) (some "e") [.Return (some (.Call (.Name "_law_which" q) [.Name "e" p2] [] p3)) p4] pos'] [] [] pos) (sTry Wv f) := by
  obtain ⟨fa, fd, hm, hk, hbd, run⟩ := W.ex
  refine ps_imp (L2N.ps_try_as (tb := fun W => tS (g3 X) X.mg W f) (ts := fun a cls d Dn σ H => ∃ (σ0 : L2.St) (c : Str) (C : Addr) (r : D) (m : Mp) (S : Sto), σ = σ0.set i (some (.ref a)) ∧ cls = .ref C ∧ d = none ∧ X.mg c = some (.ref C) ∧ Wv c = some r ∧ Sim (g3 X) H m S ∧ (∀ m' v H', Grow m H m' H' → Sim (g3 X) H' m' S → Rep X.K H' m' r v → Dn.rt v H')) hs hf hN hi hln hc tk hb ?su) fun Dn σ H h => ?wish
  case wish =>
    obtain ⟨m, fr, S, at_, h⟩ := h
    refine ⟨m, fr, S, at_, ?_⟩
    unfold sTry at h
    cases e : f fr S with
    | exc c S' =>
      rw [e] at h
      simp only at h
      cases e2 : Wv c with
      | none => rw [e2] at h; exact h.elim
      | some d =>
        rw [e2] at h
        intro m' σ' H' C g s' hC
        refine ⟨true, hx c d C e2 hC, fun _ a ha => ⟨σ', c, C, d, m', S', rfl, rfl, rfl, hC, e2, s', fun m2 v H2 g2 s2 r2 => ?_⟩, fun z => Bool.noConfusion z⟩
        exact h m2 v H2 (g.trans g2) s2 r2
    | nx fr' S' => rw [e] at h; exact h
    | ret d S' => rw [e] at h; exact h
    | brk fr' S' => rw [e] at h; exact h
    | cnt fr' S' => rw [e] at h; exact h
    | bad => rw [e] at h; exact h
  case su =>
    intro a oe cls d pn hz hfl
    refine ⟨fun pins s σ H Dn I h => ?_⟩
    obtain ⟨σ0, c, C, r, m, S, rfl, rfl, rfl, hC, hV, sim, hq⟩ := h
    have hlen : σ0.length = X.N.length := by have := I.len; rwa [List.length_set] at this
    have hil : i < σ0.length := by rw [hlen]; exact (List.getElem?_eq_some_iff.1 hi).1
    have hget : (σ0.set i (some (V.ref a)))[i]? = some (some (V.ref a)) := by simp [hil]
    have hot : L2H.Hot1 (X.suite a ((a, oe) :: pn)).A (a, oe) := by
      obtain ⟨vs, hvs⟩ := hfl
      exact ⟨rfl, vs, hvs, hz.2.2 vs hvs⟩
    have hrH : L2H.RoomH k (X.suite a ((a, oe) :: pn)).A := ⟨(L2H.roomH_of hr).dp, (L2H.roomH_of hr).un⟩
    have pe := pe_which (Y := X.suite a ((a, oe) :: pn)) (p2 := p2) (p3 := p3) (q := q) W hrH hot (List.mem_cons_self ..) hfl hi hv hg he hpl
    exact (pss_one (ps_ret pe)).run pins s _ H Dn I ⟨hget, c, C, r, m, S, ⟨hz.1, hz.2.1⟩, hC, hV, sim, hq⟩
end Py
set_option maxRecDepth 100000
set_option maxHeartbeats 1000000
namespace Py
open PySem PySem.Spec PyProof.Rows L2

theorem bt_ve : bootBuiltins "ValueError" = some (.type "ValueError") := by decide +kernel
/-! ### _law_which -/
abbrev own13 : List Str := ["NoPicture", "NoSize", "NoDeeds", "NoCut", "NoNumber", "NoPlace", "NoWord", "NoStars", "NoFiles", "NoRule", "NoStep", "Full", "NoAsk"]
def KitAt (K : PySem.W.Frag) (mg : Str → Option Value) (C : Addr) (x : Str) (b : Bool) : Prop := ∃ C', mg x = some (.ref C') ∧ PySem.W.kitOne K (.ref C) (.ref C') = some b
structure WRow (K : PySem.W.Frag) (mg : Str → Option Value) (c : Str) (j : Nat) : Prop where
  ex : ∃ C, mg c = some (.ref C) ∧ ExcC K C ∧ PySem.W.kitOne K (.ref C) (.type "ValueError") = some true ∧ (∃ CH, mg "HallError" = some (.ref CH) ∧ PySem.W.exmOne K (.ref C) (.ref CH) = some true) ∧
    KitAt K mg C "NoPicture" (decide (0 = j)) ∧ KitAt K mg C "NoSize" (decide (1 = j)) ∧ KitAt K mg C "NoDeeds" (decide (2 = j)) ∧ KitAt K mg C "NoCut" (decide (3 = j)) ∧ KitAt K mg C "NoNumber" (decide (4 = j)) ∧ KitAt K mg C "NoPlace" (decide (5 = j)) ∧
    KitAt K mg C "NoWord" (decide (6 = j)) ∧ KitAt K mg C "NoStars" (decide (7 = j)) ∧ KitAt K mg C "NoFiles" (decide (8 = j)) ∧ KitAt K mg C "NoRule" (decide (9 = j)) ∧ KitAt K mg C "NoStep" (decide (10 = j)) ∧ KitAt K mg C "Full" (decide (11 = j)) ∧ KitAt K mg C "NoAsk" (decide (12 = j))
section
variable {K : PySem.W.Frag} {h : Heap} {mg : Str → Option Value}
theorem kitAt_mk {C C' : Addr} {x : Str} {b : Bool} (X : K.In h) (G : h.Ns mainGlobals mg) (a : PySem.W.nsIn K mainGlobals x = some (some (.ref C'))) (d : PySem.W.hasDictIn K C' = true) (t : PySem.W.typeIn K (.ref C') = some (.type "type")) (e : PySem.W.subIn K (.ref C) (.ref C') = some b) (q : C = C' → b = true) : KitAt K mg C x b := by
  refine ⟨C', PySem.W.mg_of X G a, ?_⟩
  unfold PySem.W.kitOne
  by_cases c : (Value.ref C == Value.ref C') = true
  · rw [if_pos c, q (Value.ref.inj (eq_of_beq c))]
  · rw [if_neg c]
    obtain ⟨cd, hc, _⟩ := PySem.W.any_some d
    simp only [PySem.W.kitCls]
    rw [if_pos (by rw [hc, t]; rfl), e]
theorem kitV_mk {C : Addr} (e : PySem.W.subIn K (.ref C) (.type "ValueError") = some true) : PySem.W.kitOne K (.ref C) (.type "ValueError") = some true := by
  unfold PySem.W.kitOne
  rw [if_neg (by intro z; cases eq_of_beq z)]
  simp only [PySem.W.kitCls]
  rw [if_pos (by decide +kernel), e]
theorem excC_mk {C : Addr} (h1 : PySem.W.findIn K (.ref C) "__getattribute__" = some (some (.builtin "BaseException.__getattribute__"))) (h2 : PySem.W.findIn K (.ref C) "__getattr__" = some none) (h3 : PySem.W.subIn K (.ref C) (.type "BaseException") = some true)
    (h4 : PySem.W.hasDictIn K C = true) (h5 : PySem.W.findIn K (.ref C) "__class__" = some (some (.builtin "object.__class__"))) (h6 : PySem.W.specialIn K (.builtin "object.__class__") "__get__" = some (some (.builtin "getset_descriptor.__get__")))
    (h7 : PySem.W.takesIn K (.builtin "object.__class__") = some true) (h8 : PySem.W.mroIn K C (.type "object") = some true) : ExcC K C := ⟨h1, h2, h3, h4, h5, h6, h7, h8⟩
theorem wrow_mk {C CH : Addr} {c : Str} {j : Nat} (X : K.In h) (G : h.Ns mainGlobals mg) (a : PySem.W.nsIn K mainGlobals c = some (some (.ref C))) (e : ExcC K C) (v : PySem.W.subIn K (.ref C) (.type "ValueError") = some true) (ah : PySem.W.nsIn K mainGlobals "HallError" = some (some (.ref CH))) (hb : PySem.W.subIn K (.ref CH) (.type "BaseException") = some true) (hd : PySem.W.hasDictIn K CH = true) (ht : PySem.W.typeIn K (.ref CH) = some (.type "type")) (hs : PySem.W.subIn K (.ref C) (.ref CH) = some true)
    (k0 : KitAt K mg C "NoPicture" (decide (0 = j))) (k1 : KitAt K mg C "NoSize" (decide (1 = j))) (k2 : KitAt K mg C "NoDeeds" (decide (2 = j))) (k3 : KitAt K mg C "NoCut" (decide (3 = j))) (k4 : KitAt K mg C "NoNumber" (decide (4 = j))) (k5 : KitAt K mg C "NoPlace" (decide (5 = j)))
    (k6 : KitAt K mg C "NoWord" (decide (6 = j))) (k7 : KitAt K mg C "NoStars" (decide (7 = j))) (k8 : KitAt K mg C "NoFiles" (decide (8 = j))) (k9 : KitAt K mg C "NoRule" (decide (9 = j))) (k10 : KitAt K mg C "NoStep" (decide (10 = j))) (k11 : KitAt K mg C "Full" (decide (11 = j))) (k12 : KitAt K mg C "NoAsk" (decide (12 = j))) : WRow K mg c j :=
  ⟨C, PySem.W.mg_of X G a, e, kitV_mk v, ⟨CH, PySem.W.mg_of X G ah, PySem.W.exm_ref hb hd ht hs⟩, k0, k1, k2, k3, k4, k5, k6, k7, k8, k9, k10, k11, k12⟩
theorem hall_mk {C : Addr} (X : K.In h) (G : h.Ns mainGlobals mg) (a : PySem.W.nsIn K mainGlobals "HallError" = some (some (.ref C))) : ∃ C, mg "HallError" = some (.ref C) := ⟨C, PySem.W.mg_of X G a⟩
def RowsOk (K : PySem.W.Frag) (mg : Str → Option Value) (L : List (Str × Nat)) : Prop := ∀ c j, L.lookup c = some j → WRow K mg c j ∧ j < 13
theorem rows_nil : RowsOk K mg [] := fun c j h => by cases h
theorem rows_cons {c : Str} {j : Nat} {L : List (Str × Nat)} (w : WRow K mg c j) (hj : j < 13) (r : RowsOk K mg L) : RowsOk K mg ((c, j) :: L) := fun c' j' h => by
  rw [List.lookup_cons] at h
  split at h
  · rename_i e
    cases h
    have := eq_of_beq e
    subst this
    exact ⟨w, hj⟩
  · exact r c' j' h
end
def refusedD (j : Nat) : D := .tup [.str "refused", .int j]
def wOf (L : List (Str × Nat)) (c : Str) : Option D := (L.lookup c).map refusedD
theorem wOf_some {L : List (Str × Nat)} {c : Str} {d : D} (h : wOf L c = some d) : ∃ j, L.lookup c = some j ∧ d = refusedD j := by
  unfold wOf at h
  cases e : L.lookup c with
  | none => rw [e] at h; cases h
  | some j => rw [e] at h; cases h; exact ⟨j, rfl, rfl⟩
theorem excOf_rows {K : PySem.W.Frag} {mg : Str → Option Value} {L : List (Str × Nat)} {CH : Addr} (r : RowsOk K mg L) (hH : mg "HallError" = some (.ref CH)) : ExcOf K mg (wOf L) (.ref CH) := fun c d C h hC => by
  obtain ⟨j, e, _⟩ := wOf_some h
  obtain ⟨C0, h1, _, _, ⟨CH', h2, h3⟩, _⟩ := (r c j e).1.ex
  rw [hC] at h1; cases h1
  rw [hH] at h2; cases h2
  exact h3
/-- its body, e the handled exception at a, of own13's class j -/
def b_which (a : Addr) (j : Nat) : MS :=
  (sSeq (sSet 1 (eNewL (aCons (eIs 0 a (decide (0 = j))) (aCons (eIs 0 a (decide (1 = j))) (aCons (eIs 0 a (decide (2 = j))) (aCons (eIs 0 a (decide (3 = j))) aNil))))))
    (sSeq (sExpr (eMethL extendD (eVar 1) (aCons (eLst (aCons (eIs 0 a (decide (4 = j))) (aCons (eIs 0 a (decide (5 = j))) (aCons (eIs 0 a (decide (6 = j))) (aCons (eIs 0 a (decide (7 = j))) aNil))))) aNil)))
    (sSeq (sExpr (eMethL extendD (eVar 1) (aCons (eLst (aCons (eIs 0 a (decide (8 = j))) (aCons (eIs 0 a (decide (9 = j))) (aCons (eIs 0 a (decide (10 = j))) (aCons (eIs 0 a (decide (11 = j))) aNil))))) aNil)))
    (sSeq (sExpr (eMethL appendD (eVar 1) (aCons (eIs 0 a (decide (12 = j))) aNil)))
    (sSeq (sIf (tOrM (tVal (e2 (eqD true) (eMethL countD (eVar 1) (aCons (eC (.bl true)) aNil)) (eC (.int 1)))) (tNotM (tVal (eIs 0 a true))))
    (sRet (eTup (aCons (eC (.str "refused")) (aCons (e1 negD (eC (.int 1))) aNil))))
    sNil)
    (sRet (eTup (aCons (eC (.str "refused")) (aCons (eMethL indexD (eVar 1) (aCons (eC (.bl true)) aNil)) aNil)))))))))
theorem which_leaves (a : Addr) (j : Nat) (hj : j < 13) (S : Sto) : Leaves S (bodyRes (b_which a j (startF 2 [.adr a]) S)) (.ok (refusedD j) S) := by
  have e : bodyRes (b_which a j (startF 2 [.adr a]) S) = .ok (refusedD j) (S ++ [.lst ((List.range 13).map fun i => .bl (decide (i = j)))]) := by
    have z4 : 4 ≤ sz := by unfold sz; omega
    have z2 : 2 ≤ sz := by unfold sz; omega
    have zi : ∀ k : Nat, k < 20 → k < sz := fun k hk => by unfold sz; omega
    have zl : ∀ k : Nat, k < 20 → k ≤ sz := fun k hk => by unfold sz; omega
    rcases j with _ | _ | _ | _ | _ | _ | _ | _ | _ | _ | _ | _ | _ | j
    all_goals first
      | omega
      | (simp [b_which, startF, bodyRes, sSeq, sSet, sExpr, sIf, sRet, sNil, eNewL, eLst, eTup, aCons, aNil, eIs, eVar, eC, e1, e2, eMethL, lstOf, extendD, appendD, tOrM, tNotM, tVal, seqOf, z4, z2, zi, zl, countD, indexD, findP, dP, toP, toPs, PyData.eqv, eqD, List.countP, List.countP.go, refusedD, List.range, List.range.loop])
  rw [e]
  refine ⟨⟨by simp, fun i o hi h => ?_⟩, refusedD j, ?_, ?_⟩
  · left; rwa [List.getElem?_append_left hi] at h
  · exact .same (by simp [refusedD, D.lower, lowerL])
  · simp
theorem At0.parts {K : PySem.W.Frag} {mg : Str → Option Value} {x : Str} {st : Stmt} {ps : List Str} (T : At0 K mg x st ps) : ∃ f fd, Fun K x x st f fd ∧ mg x = some (.ref f) ∧ PySem.W.keepIn K (.ref f) = true ∧ Binds K fd ps [] := by
  obtain ⟨f, fd, h1, h2, h3⟩ := T.ex
  exact ⟨f, fd, h1, h2, h1.kp, h3⟩
theorem hall_names {X : Cx} (hg : Gl X "HallError") (h : ∃ C, X.mg "HallError" = some (.ref C)) : L2.Names X "HallError" ((X.mg "HallError").getD .none) := by
  obtain ⟨C, e⟩ := h
  refine ⟨hg, by decide, Or.inl ?_⟩
  rw [e]
  rfl
theorem hall_exc {K : PySem.W.Frag} {mg : Str → Option Value} {L : List (Str × Nat)} (h : ∃ C, mg "HallError" = some (.ref C)) (r : RowsOk K mg L) : ExcOf K mg (wOf L) ((mg "HallError").getD .none) := by
  obtain ⟨C, e⟩ := h
  rw [e]
  exact excOf_rows r e
end Py
set_option maxRecDepth 100000
set_option maxHeartbeats 1000000
namespace Py
open PySem PySem.Spec PyProof.Rows L2
/-! ### [x] * n, to the store -/
open Classical in
noncomputable def mulN (x y : D) (S : Sto) : Res D := match y with
  | .int k => (match lstOf S x with | some xs => if 0 ≤ k ∧ k ≤ 1000 ∧ xs.length ≤ 1000 then .ok (.ref S.length) (S ++ [.lst (repD k.toNat xs)]) else .bad | none => .bad)
  | _ => .bad
section
variable {X : Cx}
theorem o_mulN : Op2 (g3 X) X.mg (rMulA X.K) mulN := by
  intro E σ m H S x y v u Q s rx ry p
  unfold mulN at p
  split at p
  · rename_i k
    simp only [Rep] at ry
    split at p
    · rename_i xs hS
      split at p
      · rename_i h
        obtain ⟨a, vs, rfl, hq, r⟩ := lst_at s rx hS
        refine .inr (.inr ⟨a, k, vs, rfl, ry, hq, by omega, by omega, ?_, fun q hq => p (m.add q) _ _ (.alloc hq) (s.alloc hq ⟨_, upd_same, (r.rep _).mono (.alloc hq)⟩) (.refLast s.len)⟩)
        rw [r.length, sizeLine_eq]
        have : xs.length * k.toNat ≤ 1000 * 1000 := Nat.mul_le_mul h.2.2 (by omega)
        omega
      · exact p.elim
    · exact p.elim
  · exact p.elim
end
/-! ### xs[i] = e -/
def sLput (f fo fi : ME) : MS := fun fr S => (f fr S).then fun x S => (fo fr S).then fun d S => (fi fr S).then fun i S => match d, i with
  | .ref n, .int k => (match S[n]? with | some (.lst xs) => (match ixN xs.length k with | some j => .nx fr (S.set n (.lst (xs.set j x))) | none => .bad) | _ => .bad)
  | _, _ => .bad
theorem ss_lput {X : Cx} {E : WX} {e o i : Expr} {f fo fi : ME} {pos p2 : Pos} (he : SE X E e f) (ho : SE X E o fo) (hi : SE X E i fi) (hs : swapsWithSole [.Subscript o i p2] e pos.line X.env = pure false := by rfl) (hw : swappedStores [.Subscript o i p2] e X.env = pure none := by rfl)
    (h1 : (assignEach [.Subscript o i p2] X.env).map (·.2) = [assign (.Subscript o i p2) X.env] := by rfl)
    (ha : ∀ v, assign (.Subscript o i p2) X.env v = (do
      let ov ← holding [v] (eval o X.env)
      let iv ← holding [v, ov] (eval i X.env)
      standAt p2
      holding [v, ov, iv] (setItem ov iv v)
      release [v, ov, iv] []) := by intro _; rfl) : SS X E (.Assign [.Subscript o i p2] e pos) (sLput f fo fi) :=
  ps_imp (ps_asg he (pg_sub ho hi set_list ha) hs hw h1) fun Dn σ H h => by
    obtain ⟨m, fr, S, at_, h⟩ := h
    refine ⟨m, fr, S, at_, PSt.then h fun x S1 m1 v H1 e1 g1 s1 r1 p1 => ?_⟩
    refine ⟨m1, fr, S1, ⟨at_.f.mono g1, s1⟩, PSt.then p1 fun d S2 m2 w H2 e2 g2 s2 r2 p2 => ?_⟩
    refine ⟨m2, fr, S2, ⟨(at_.f.mono g1).mono g2, s2⟩, PSt.then p2 fun k S3 m3 u H3 e3 g3 s3 r3 p3 => ?_⟩
    have rx := (r1.mono g2).mono g3
    have rd := r2.mono g3
    split at p3
    · rename_i n i
      simp only [RD, Rep] at rd r3
      obtain ⟨a, rfl, hn⟩ := rd
      subst r3
      split at p3
      · rename_i xs hS
        split at p3
        · rename_i j hj
          obtain ⟨vs, hv, rv⟩ := s3.lst hn hS
          have hk : ∀ ys, H3 a ≠ some (.tup ys) := fun ys z => by rw [hv] at z; cases z
          refine ⟨a, vs, i, j, rfl, rfl, hv, by rw [rv.length]; exact hj, ?_⟩
          have gr : Grow m3 H3 m3 (upd H3 a (.lst (vs.set j v))) := Grow.put (List.mem_of_getElem? hn) hk
          exact p3 m3 σ _ gr ⟨((at_.f.mono g1).mono g2).mono (g3.trans gr), s3.put hn hk ⟨_, upd_same, (RepL.set rx j rv).mono gr⟩⟩
        · exact p3.elim
      · exact p3.elim
    · exact p3.elim
end Py
set_option maxRecDepth 100000
set_option maxHeartbeats 1000000
namespace Py
open PySem PySem.Spec PyProof.Rows L2
/-! ### min of a list of data -/
def rMinP (K : PySem.W.Frag) : List V → Hp → VK → Prop := fun vs H Q => ∃ (a : Addr) (us : List V) (x : PyData) (xs : List PyData), vs = [V.ref a] ∧ SqL K H a us ∧ DpAll K H us (x :: xs) ∧ PyData.canLayAll0 (x :: xs) = true ∧ PySem.W.AlikeAll (x :: xs) ∧ PyData.depthAll (x :: xs) ≤ 60 ∧
  ∀ (i : Nat) (v : V), us[i]? = some v → (x :: xs)[i]? = some (PySem.W.minD x xs) → Q v H
theorem lay_mem : ∀ {xs : List PyData}, PyData.canLayAll0 xs = true → ∀ {x : PyData}, x ∈ xs → x.canLay0 = true
  | y :: ys, h, x, hx => by
    simp only [PyData.canLayAll0, Bool.and_eq_true] at h
    rcases List.mem_cons.1 hx with rfl | hx
    · exact h.1
    · exact lay_mem h.2 hx
theorem cr_minP {X : Cx} (hc : X.calm = true) (hu : X.A.units + 65 < cLine) : CallR X (.builtin "min") (rMinP X.K) := by
  intro pins s σ H vs ws Q I r h
  obtain ⟨a, us, x, xs, rfl, hs, hd, lay, hal, hdep, q⟩ := h
  obtain ⟨its, rv, hL, _⟩ := I.list hs
  rw [Vals.ref1 r]
  obtain ⟨as, hr⟩ := Dp.readsAll I (x :: xs) us its hd rv
  refine PySem.W.min_list_data (vs := its.toArray) (I.ok.hd hc) hL.isList (show ReadsAll s.heap its.toArray.toList (x :: xs) as from hr) hal (by omega) fun i v h' tk bs hv rd hk => ?_
  have hv' : its[i]? = some v := by simpa using hv
  obtain ⟨bs', r1, hi, hmem, _⟩ := PySem.W.readsAll_atA (vs := its.toArray) (show ReadsAll s.heap its.toArray.toList (x :: xs) as from hr) i v hv
  have cl : ((x :: xs).getD i .none).canLay0 = true := lay_mem lay hmem
  have eq := SeqAt.Reads.unique _ _ _ _ _ cl (PySem.W.reads_keeps hk r1) rd
  have hlen := rv.length
  have hil : i < us.length := by rw [hlen]; exact (List.getElem?_eq_some_iff.1 hv').1
  obtain ⟨u', e1, e2⟩ := rv.get (List.getElem?_eq_getElem hil)
  rw [hv'] at e1
  cases e1
  refine ⟨us[i], H, I.kept hk, e2, q i us[i] (List.getElem?_eq_getElem hil) ?_⟩
  rw [← eq, List.getD_eq_getElem?_getD, List.getElem?_eq_getElem hi]
  rfl
open Classical in
noncomputable def minTD : List D → Sto → Res D
  | [d], S => (match lstOf S d with
    | some ds => (match toPs (toP 11 S) ds with
      | some (x :: xs) => if h : PySem.W.AlikeAll (x :: xs) ∧ ∃ e, ∀ e' ∈ ds, toP 11 S e' = some (PySem.W.minD x xs) → e' = e then .ok (Classical.choose h.2) S else .bad
      | _ => .bad)
    | none => .bad)
  | _, _ => .bad
theorem toPs_get {f : D → Option PyData} : ∀ {ds : List D} {ps : List PyData}, toPs f ds = some ps → ∀ (i : Nat) (p : PyData), ps[i]? = some p → ∃ d, ds[i]? = some d ∧ f d = some p
  | [], ps, h, i, p, hp => by cases h; simp at hp
  | d :: ds, ps, h, i, p, hp => by
    simp only [toPs] at h
    split at h
    · rename_i q qs e1 e2
      cases h
      cases i with
      | zero => simp at hp; subst hp; exact ⟨d, rfl, e1⟩
      | succ i => simpa using toPs_get e2 i p (by simpa using hp)
    · cases h
theorem o_minT {X : Cx} : OpN (g3 X) X.mg (rMinP X.K) minTD := by
  intro E σ m H S xs vs Q s r p
  unfold minTD at p
  split at p
  · rename_i d
    simp only [RepL] at r
    obtain ⟨v, rr, rfl, r1, rfl⟩ := r
    split at p
    · rename_i ds hS
      split at p
      · rename_i x ps hP
        split at p
        · rename_i h
          obtain ⟨a, us, rfl, hq, ru⟩ := lst_at s r1 hS
          obtain ⟨t1, t2, t3⟩ := toPs_dp (n := 11) (fun d v p r e => toP_dp s 11 d v p r e) ds us (x :: ps) ru hP
          refine ⟨a, us, x, ps, rfl, SqL.of hq, t1, t2, h.1, by omega, fun i v hv hx => ?_⟩
          obtain ⟨e', he', hp'⟩ := toPs_get hP i _ hx
          have ee := Classical.choose_spec h.2 e' (List.mem_of_getElem? he') hp'
          obtain ⟨v', hv', rv'⟩ := ru.get he'
          rw [hv] at hv'
          cases hv'
          rw [ee] at rv'
          exact p m _ H (.refl _ _) s rv'
        · exact p.elim
      · exact p.elim
    · exact p.elim
  · exact p.elim
end Py
set_option maxRecDepth 100000
set_option maxHeartbeats 4000000
namespace Py
open PySem PySem.Spec PyProof.Rows L2
def g_PLAIN : D := .tup [.tup [.str "turn"], .tup [.str "mirror"], .tup [.str "invert"], .tup [.str "halve"]]
noncomputable def b_is_whole : MS :=
  (sRet (eAnd (eCall isiD (aCons (eVar 0) (aCons (eC (.ty "int")) aNil))) (eAnd (eNot (eCall isiD (aCons (eVar 0) (aCons (eC (.ty "bool")) aNil)))) (eChain leD leD (eVar 1) (eVar 0) (eVar 2)))))
noncomputable def F_is_whole : List D → Sto → Res D := fnS 3 3 b_is_whole
noncomputable def b_is_picture : MS :=
  (sSeq (sIf (tOrM (tNotM (tVal (eCall isiD (aCons (eVar 0) (aCons (eC (.ty "tuple")) aNil))))) (tNotM (tVal (eChain leD leD (eC (.int 1)) (eCall lenD (aCons (eVar 0) aNil)) (eC (.int 8))))))
    (sRet (eC (.bl false)))
    sNil)
    (sSeq (sIf (tNotM (tVal (eCall allD (aCons (eComp [1] (iSeq (eVar 0)) (gN 1) tTrue (eAnd (eCall isiD (aCons (eVar 1) (aCons (eC (.ty "tuple")) aNil))) (eChain leD leD (eC (.int 1)) (eCall lenD (aCons (eVar 1) aNil)) (eC (.int 8))))) aNil))))
    (sRet (eC (.bl false)))
    sNil)
    (sSeq (sIf (tNotM (tVal (eCall allD (aCons (eComp [1] (iSeq (eVar 0)) (gN 1) tTrue (e2 (eqD false) (eCall lenD (aCons (eVar 1) aNil)) (eCall lenD (aCons (e2 ixD (eVar 0) (eC (.int 0))) aNil)))) aNil))))
    (sRet (eC (.bl false)))
    sNil)
    (sRet (eCall allD (aCons (eComp [1] (iSeq (eVar 0)) (gN 1) tTrue (eCall allD (aCons (eComp [2] (iSeq (eVar 1)) (gN 2) tTrue (eCall F_is_whole (aCons (eVar 2) (aCons (eC (.int 0)) (aCons (eC (.int 9)) aNil))))) aNil))) aNil))))))
noncomputable def F_is_picture : List D → Sto → Res D := fnS 1 3 b_is_picture
noncomputable def b_need_picture : MS :=
  (sIf (tNotM (tVal (eCall F_is_picture (aCons (eVar 0) aNil))))
    (sRaise "NoPicture")
    sNil)
noncomputable def F_need_picture : List D → Sto → Res D := fnS 1 1 b_need_picture
noncomputable def b_need_size : MS :=
  (sIf (tOrM (tNotM (tVal (eCall F_is_whole (aCons (eVar 0) (aCons (eC (.int 1)) (aCons (eC (.int 8)) aNil)))))) (tNotM (tVal (eCall F_is_whole (aCons (eVar 1) (aCons (eC (.int 1)) (aCons (eC (.int 8)) aNil)))))))
    (sRaise "NoSize")
    sNil)
noncomputable def F_need_size : List D → Sto → Res D := fnS 2 2 b_need_size
noncomputable def b_turned_rows : MS :=
  (sRet (eCall tupleD (aCons (eComp [1] (iRng1' (aCons (eCall lenD (aCons (e2 ixD (eVar 0) (eC (.int 0))) aNil)) aNil)) (gN 1) tTrue (eCall tupleD (aCons (eComp [2] (iSeq (eStep (-1) (eVar 0))) (gN 2) tTrue (e2 ixD (eVar 2) (eVar 1))) aNil))) aNil)))
noncomputable def F_turned_rows : List D → Sto → Res D := fnS 1 3 b_turned_rows
noncomputable def b_mirrored_rows : MS :=
  (sRet (eCall tupleD (aCons (eComp [1] (iSeq (eVar 0)) (gN 1) tTrue (eStep (-1) (eVar 1))) aNil)))
noncomputable def F_mirrored_rows : List D → Sto → Res D := fnS 1 2 b_mirrored_rows
noncomputable def b_is_deed : MS :=
  (sSeq (sIf (tOrM (tNotM (tVal (eCall isiD (aCons (eVar 0) (aCons (eC (.ty "tuple")) aNil))))) (tOrM (tVal (e2 (eqD false) (eCall lenD (aCons (eVar 0) aNil)) (eC (.int 0)))) (tNotM (tVal (eCall isiD (aCons (e2 ixD (eVar 0) (eC (.int 0))) (aCons (eC (.ty "str")) aNil)))))))
    (sRet (eC (.bl false)))
    sNil)
    (sSeq (sIf (tVal (e2 (eqD false) (e2 ixD (eVar 0) (eC (.int 0))) (eC (.str "light"))))
    (sRet (eAnd (e2 (eqD false) (eCall lenD (aCons (eVar 0) aNil)) (eC (.int 2))) (eCall F_is_whole (aCons (e2 ixD (eVar 0) (eC (.int 1))) (aCons (e2 subD (eC (.int 0)) (eC (.int 9))) (aCons (eC (.int 9)) aNil))))))
    sNil)
    (sSeq (sIf (tVal (e2 (eqD true) (e2 ixD (eVar 0) (eC (.int 0))) (eC (.str "cut"))))
    (sRet (e2 (inD false) (eVar 0) (eC g_PLAIN)))
    sNil)
    (sSeq (sIf (tOrM (tVal (e2 (eqD true) (eCall lenD (aCons (eVar 0) aNil)) (eC (.int 5)))) (tNotM (tVal (eCall allD (aCons (eComp [1] (iSeq (eSlc (eVar 0) (oSome (eC (.int 1))) (oSome (eC (.int 3))))) (gN 1) tTrue (eCall F_is_whole (aCons (eVar 1) (aCons (eC (.int 0)) (aCons (e2 subD (eC (.int 8)) (eC (.int 1))) aNil))))) aNil)))))
    (sRet (eC (.bl false)))
    sNil)
    (sRet (eCall allD (aCons (eComp [1] (iSeq (eSlc (eVar 0) (oSome (eC (.int 3))) oNone)) (gN 1) tTrue (eCall F_is_whole (aCons (eVar 1) (aCons (eC (.int 1)) (aCons (eC (.int 8)) aNil))))) aNil)))))))
noncomputable def F_is_deed : List D → Sto → Res D := fnS 1 2 b_is_deed
noncomputable def b_are_deeds : MS :=
  (sRet (eAnd (eCall isiD (aCons (eVar 0) (aCons (eC (.ty "tuple")) aNil))) (eAnd (e2 leD (eCall lenD (aCons (eVar 0) aNil)) (eC (.int 20))) (eCall allD (aCons (eComp [1] (iSeq (eVar 0)) (gN 1) tTrue (eCall F_is_deed (aCons (eVar 1) aNil))) aNil)))))
noncomputable def F_are_deeds : List D → Sto → Res D := fnS 1 2 b_are_deeds
noncomputable def b_need_deeds : MS :=
  (sIf (tNotM (tVal (eCall F_are_deeds (aCons (eVar 0) aNil))))
    (sRaise "NoDeeds")
    sNil)
noncomputable def F_need_deeds : List D → Sto → Res D := fnS 1 1 b_need_deeds
noncomputable def b_moved : MS :=
  (sSeq (sIf (tVal (e2 (eqD false) (e2 ixD (eVar 1) (eC (.int 0))) (eC (.str "turn"))))
    (sRet (eCall F_turned_rows (aCons (eVar 0) aNil)))
    sNil)
    (sSeq (sIf (tVal (e2 (eqD false) (e2 ixD (eVar 1) (eC (.int 0))) (eC (.str "mirror"))))
    (sRet (eCall F_mirrored_rows (aCons (eVar 0) aNil)))
    sNil)
    (sSeq (sIf (tVal (e2 (eqD false) (e2 ixD (eVar 1) (eC (.int 0))) (eC (.str "halve"))))
    (sRet (eCall tupleD (aCons (eComp [6] (iSeq (eStep 2 (eVar 0))) (gN 6) tTrue (eStep 2 (eVar 6))) aNil)))
    sNil)
    (sSeq (sIf (tVal (e2 (eqD false) (e2 ixD (eVar 1) (eC (.int 0))) (eC (.str "cut"))))
    (sSeq (sAsg (gT 4 (gsC (gN 2) (gsC (gN 3) (gsC (gN 4) (gsC (gN 5) gs0))))) (eSlc (eVar 1) (oSome (eC (.int 1))) oNone))
    (sSeq (sIf (tOrM (tVal (e2 gtD (e2 addD (eVar 2) (eVar 4)) (eCall lenD (aCons (e2 ixD (eVar 0) (eC (.int 0))) aNil)))) (tVal (e2 gtD (e2 addD (eVar 3) (eVar 5)) (eCall lenD (aCons (eVar 0) aNil)))))
    (sRaise "NoCut")
    sNil)
    (sRet (eCall tupleD (aCons (eComp [6] (iSeq (eSlc (eVar 0) (oSome (eVar 3)) (oSome (e2 addD (eVar 3) (eVar 5))))) (gN 6) tTrue (eSlc (eVar 6) (oSome (eVar 2)) (oSome (e2 addD (eVar 2) (eVar 4))))) aNil)))))
    sNil)
    (sRet (eVar 0))))))
noncomputable def F_moved : List D → Sto → Res D := fnS 2 7 b_moved
noncomputable def b_lit : MS :=
  (sSeq (sIf (tVal (e2 (eqD false) (e2 ixD (eVar 1) (eC (.int 0))) (eC (.str "invert"))))
    (sRet (eCall tupleD (aCons (eComp [2] (iSeq (eVar 0)) (gN 2) tTrue (e2 subD (eC (.int 9)) (eVar 2))) aNil)))
    sNil)
    (sSeq (sIf (tVal (e2 (eqD false) (e2 ixD (eVar 1) (eC (.int 0))) (eC (.str "light"))))
    (sRet (eCall tupleD (aCons (eComp [2] (iSeq (eVar 0)) (gN 2) tTrue (eCall maxD (aCons (eC (.int 0)) (aCons (eCall minD (aCons (eC (.int 9)) (aCons (e2 addD (eVar 2) (e2 ixD (eVar 1) (eC (.int 1)))) aNil))) aNil)))) aNil)))
    sNil)
    (sRet (eVar 0))))
noncomputable def F_lit : List D → Sto → Res D := fnS 2 3 b_lit
noncomputable def b_behind : MS :=
  (sSeq (sFor (iSeq (eVar 1)) (gN 2)
    (sSeq (sSet 0 (eCall F_moved (aCons (eVar 0) (aCons (eVar 2) aNil))))
    (sSet 0 (eCall tupleD (aCons (eComp [3] (iSeq (eVar 0)) (gN 3) tTrue (eCall F_lit (aCons (eVar 3) (aCons (eVar 2) aNil)))) aNil)))))
    (sRet (eVar 0)))
noncomputable def F_behind : List D → Sto → Res D := fnS 2 4 b_behind
noncomputable def b_done : MS :=
  (sSeq (sExpr (eCall F_need_picture (aCons (eVar 0) aNil)))
    (sSeq (sExpr (eCall F_need_deeds (aCons (eVar 1) aNil)))
    (sRet (eCall F_behind (aCons (eVar 0) (aCons (eVar 1) aNil))))))
noncomputable def F_done : List D → Sto → Res D := fnS 2 2 b_done
noncomputable def b_map_of : MS :=
  (sSeq (sSet 3 (eCall tupleD (aCons (eComp [5] (iRng1' (aCons (eVar 1) aNil)) (gN 5) tTrue (eCall tupleD (aCons (eComp [6] (iRng1' (aCons (eVar 0) aNil)) (gN 6) tTrue (eTup (aCons (eVar 5) (aCons (eVar 6) aNil)))) aNil))) aNil)))
    (sSeq (sFor (iSeq (eVar 2)) (gN 4)
    (sSet 3 (eCall F_moved (aCons (eVar 3) (aCons (eVar 4) aNil)))))
    (sRet (eVar 3))))
noncomputable def F_map_of : List D → Sto → Res D := fnS 3 7 b_map_of
noncomputable def b_size : MS :=
  (sSeq (sExpr (eCall F_need_size (aCons (eVar 0) (aCons (eVar 1) aNil))))
    (sSeq (sExpr (eCall F_need_deeds (aCons (eVar 2) aNil)))
    (sSeq (sSet 3 (eCall F_map_of (aCons (eVar 0) (aCons (eVar 1) (aCons (eVar 2) aNil)))))
    (sRet (eTup (aCons (eCall lenD (aCons (e2 ixD (eVar 3) (eC (.int 0))) aNil)) (aCons (eCall lenD (aCons (eVar 3) aNil)) aNil)))))))
noncomputable def F_size : List D → Sto → Res D := fnS 3 4 b_size
noncomputable def b_law_cell_at : MS :=
  (sSeq (sIf (tVal (e2 ltD (eVar 1) (eCall lenD (aCons (eVar 0) aNil))))
    (sRet (e2 ixD (eVar 0) (eVar 1)))
    sNil)
    (sSeq (sIf (tVal (e2 (eqD false) (eVar 0) (eLst aNil)))
    (sRet (eC (.int 0)))
    sNil)
    (sRet (e2 addD (e2 mulD (e2 ixD (eVar 0) (e2 modD (eVar 1) (eCall lenD (aCons (eVar 0) aNil)))) (eC (.int 31))) (eVar 1)))))
noncomputable def F_law_cell_at : List D → Sto → Res D := fnS 2 2 b_law_cell_at
noncomputable def b_law_mixed : MS :=
  (sSeq (sSet 3 (e2 modD (e2 mulD (e2 addD (e2 addD (eCall F_law_cell_at (aCons (eVar 0) (aCons (eVar 1) aNil))) (e2 mulD (eC (.int 7919)) (eVar 1))) (eC (.int 1))) (eC (.int 48271))) (eC (.int 2147483647))))
    (sRet (e2 modD (e2 modD (e2 addD (e2 addD (e2 mulD (eVar 3) (eVar 3)) (e2 mulD (eC (.int 7)) (eVar 3))) (eVar 1)) (eC (.int 2147483629))) (eVar 2))))
noncomputable def F_law_mixed : List D → Sto → Res D := fnS 3 4 b_law_mixed
noncomputable def b_law_draw : MS :=
  (sSeq (sExpr (eMethL appendD (eVar 1) (aCons (eC (.int 0)) aNil)))
    (sRet (eCall F_law_mixed (aCons (eVar 0) (aCons (eCall lenD (aCons (eVar 1) aNil)) (aCons (eVar 2) aNil))))))
noncomputable def F_law_draw : List D → Sto → Res D := fnS 3 3 b_law_draw
noncomputable def b_law_pick : MS :=
  (sRet (e2 ixD (eVar 2) (eCall F_law_draw (aCons (eVar 0) (aCons (eVar 1) (aCons (eCall lenD (aCons (eVar 2) aNil)) aNil))))))
noncomputable def F_law_pick : List D → Sto → Res D := fnS 3 3 b_law_pick
noncomputable def b_law_picture : MS :=
  (sSeq (sSet 3 (e2 addD (eC (.int 1)) (eCall F_law_draw (aCons (eVar 0) (aCons (eVar 1) (aCons (eVar 2) aNil))))))
    (sSeq (sSet 4 (eCall F_law_pick (aCons (eVar 0) (aCons (eVar 1) (aCons (eLst (aCons (eVar 3) (aCons (e2 addD (eC (.int 1)) (eCall F_law_draw (aCons (eVar 0) (aCons (eVar 1) (aCons (eVar 2) aNil))))) aNil))) aNil)))))
    (sSeq (sSet 5 (eCall F_law_pick (aCons (eVar 0) (aCons (eVar 1) (aCons (eLst (aCons (eC (.int 2)) (aCons (eC (.int 3)) (aCons (eC (.int 10)) aNil)))) aNil)))))
    (sRet (eCall tupleD (aCons (eComp [6] (iRng1' (aCons (eVar 4) aNil)) (gN 6) tTrue (eCall tupleD (aCons (eComp [7] (iRng1' (aCons (eVar 3) aNil)) (gN 7) tTrue (eCall F_law_draw (aCons (eVar 0) (aCons (eVar 1) (aCons (eVar 5) aNil))))) aNil))) aNil))))))
noncomputable def F_law_picture : List D → Sto → Res D := fnS 3 8 b_law_picture
noncomputable def b_law_deed : MS :=
  (sSeq (sSet 4 (eCall F_law_draw (aCons (eVar 0) (aCons (eVar 1) (aCons (eC (.int 9)) aNil)))))
    (sSeq (sIf (tVal (e2 ltD (eVar 4) (eC (.int 2))))
    (sRet (eTup (aCons (eC (.str "turn")) aNil)))
    sNil)
    (sSeq (sIf (tVal (e2 ltD (eVar 4) (eC (.int 4))))
    (sRet (eTup (aCons (eC (.str "mirror")) aNil)))
    sNil)
    (sSeq (sIf (tVal (e2 (eqD false) (eVar 4) (eC (.int 4))))
    (sRet (eTup (aCons (eC (.str "invert")) aNil)))
    sNil)
    (sSeq (sIf (tVal (e2 (eqD false) (eVar 4) (eC (.int 5))))
    (sRet (eTup (aCons (eC (.str "light")) (aCons (e2 subD (eCall F_law_draw (aCons (eVar 0) (aCons (eVar 1) (aCons (eC (.int 19)) aNil)))) (eC (.int 9))) aNil))))
    sNil)
    (sSeq (sIf (tAndM (tVal (e2 (eqD false) (eVar 4) (eC (.int 6)))) (tVal (e2 gtD (eCall maxD (aCons (eVar 2) (aCons (eVar 3) aNil))) (eC (.int 2)))))
    (sRet (eTup (aCons (eC (.str "halve")) aNil)))
    sNil)
    (sSeq (sSet 5 (eCall F_law_draw (aCons (eVar 0) (aCons (eVar 1) (aCons (eCall maxD (aCons (eC (.int 1)) (aCons (e2 subD (eVar 2) (eC (.int 1))) aNil))) aNil)))))
    (sSeq (sSet 6 (eCall F_law_draw (aCons (eVar 0) (aCons (eVar 1) (aCons (eCall maxD (aCons (eC (.int 1)) (aCons (e2 subD (eVar 3) (eC (.int 1))) aNil))) aNil)))))
    (sSeq (sSet 7 (e2 subD (e2 subD (eVar 2) (eVar 5)) (e2 mulD (eCall F_law_draw (aCons (eVar 0) (aCons (eVar 1) (aCons (eC (.int 2)) aNil)))) (eCall intD (aCons (e2 gtD (e2 subD (eVar 2) (eVar 5)) (eC (.int 1))) aNil)))))
    (sSeq (sSet 8 (e2 subD (e2 subD (eVar 3) (eVar 6)) (e2 mulD (eCall F_law_draw (aCons (eVar 0) (aCons (eVar 1) (aCons (eC (.int 2)) aNil)))) (eCall intD (aCons (e2 gtD (e2 subD (eVar 3) (eVar 6)) (eC (.int 1))) aNil)))))
    (sRet (eTup (aCons (eC (.str "cut")) (aCons (eVar 5) (aCons (eVar 6) (aCons (eVar 7) (aCons (eVar 8) aNil)))))))))))))))))
noncomputable def F_law_deed : List D → Sto → Res D := fnS 4 9 b_law_deed
noncomputable def b_law_behind_size : MS :=
  (sSeq (sIf (tVal (e2 (eqD false) (e2 ixD (eVar 2) (eC (.int 0))) (eC (.str "turn"))))
    (sRet (eTup (aCons (eVar 1) (aCons (eVar 0) aNil))))
    sNil)
    (sSeq (sIf (tVal (e2 (eqD false) (e2 ixD (eVar 2) (eC (.int 0))) (eC (.str "halve"))))
    (sRet (eTup (aCons (e2 fdivD (e2 addD (eVar 0) (eC (.int 1))) (eC (.int 2))) (aCons (e2 fdivD (e2 addD (eVar 1) (eC (.int 1))) (eC (.int 2))) aNil))))
    sNil)
    (sSeq (sIf (tVal (e2 (eqD false) (e2 ixD (eVar 2) (eC (.int 0))) (eC (.str "cut"))))
    (sRet (eTup (aCons (e2 ixD (eVar 2) (eC (.int 3))) (aCons (e2 ixD (eVar 2) (eC (.int 4))) aNil))))
    sNil)
    (sRet (eTup (aCons (eVar 0) (aCons (eVar 1) aNil)))))))
noncomputable def F_law_behind_size : List D → Sto → Res D := fnS 3 3 b_law_behind_size
noncomputable def b_law_deeds : MS :=
  (sSeq (sSet 5 (eNewL aNil))
    (sSeq (sFor (iRng1' (aCons (eCall F_law_draw (aCons (eVar 0) (aCons (eVar 1) (aCons (e2 addD (eVar 4) (eC (.int 1))) aNil)))) aNil)) (gN 6)
    (sSeq (sSet 7 (eCall F_law_deed (aCons (eVar 0) (aCons (eVar 1) (aCons (eVar 2) (aCons (eVar 3) aNil))))))
    (sSeq (sAsg (gT 2 (gsC (gN 2) (gsC (gN 3) gs0))) (eCall F_law_behind_size (aCons (eVar 2) (aCons (eVar 3) (aCons (eVar 7) aNil)))))
    (sExpr (eMethL appendD (eVar 5) (aCons (eVar 7) aNil))))))
    (sRet (eCall tupleD (aCons (eVar 5) aNil)))))
noncomputable def F_law_deeds : List D → Sto → Res D := fnD 5 8 b_law_deeds
noncomputable def b_law_turned : MS :=
  (sRet (eCall tupleD (aCons (eComp [1] (iRng1' (aCons (eCall lenD (aCons (e2 ixD (eVar 0) (eC (.int 0))) aNil)) aNil)) (gN 1) tTrue (eCall tupleD (aCons (eComp [2] (iRng1' (aCons (eCall lenD (aCons (eVar 0) aNil)) aNil)) (gN 2) tTrue (e2 ixD (e2 ixD (eVar 0) (e2 subD (e2 subD (eCall lenD (aCons (eVar 0) aNil)) (eC (.int 1))) (eVar 2))) (eVar 1))) aNil))) aNil)))
noncomputable def F_law_turned : List D → Sto → Res D := fnS 1 3 b_law_turned
noncomputable def b_law_mirrored : MS :=
  (sRet (eCall tupleD (aCons (eComp [1] (iSeq (eVar 0)) (gN 1) tTrue (eCall tupleD (aCons (eComp [2] (iRng1' (aCons (eCall lenD (aCons (eVar 1) aNil)) aNil)) (gN 2) tTrue (e2 ixD (eVar 1) (e2 subD (e2 subD (eCall lenD (aCons (eVar 1) aNil)) (eC (.int 1))) (eVar 2)))) aNil))) aNil)))
noncomputable def F_law_mirrored : List D → Sto → Res D := fnS 1 3 b_law_mirrored
noncomputable def b_law_worth : MS :=
  (sSeq (sIf (tVal (e2 (eqD false) (e2 ixD (eVar 1) (eC (.int 0))) (eC (.str "invert"))))
    (sRet (e2 subD (eC (.int 9)) (eVar 0)))
    sNil)
    (sSeq (sIf (tVal (e2 (eqD false) (e2 ixD (eVar 1) (eC (.int 0))) (eC (.str "light"))))
    (sRet (eCall minD (aCons (eC (.int 9)) (aCons (eCall maxD (aCons (eC (.int 0)) (aCons (e2 addD (eVar 0) (e2 ixD (eVar 1) (eC (.int 1)))) aNil))) aNil))))
    sNil)
    (sRet (eVar 0))))
noncomputable def F_law_worth : List D → Sto → Res D := fnS 2 2 b_law_worth
noncomputable def b_law_one : MS :=
  (sSeq (sIf (tVal (e2 (eqD false) (e2 ixD (eVar 1) (eC (.int 0))) (eC (.str "turn"))))
    (sRet (eCall F_law_turned (aCons (eVar 0) aNil)))
    sNil)
    (sSeq (sIf (tVal (e2 (eqD false) (e2 ixD (eVar 1) (eC (.int 0))) (eC (.str "mirror"))))
    (sRet (eCall F_law_mirrored (aCons (eVar 0) aNil)))
    sNil)
    (sSeq (sIf (tVal (e2 (eqD false) (e2 ixD (eVar 1) (eC (.int 0))) (eC (.str "halve"))))
    (sSeq (sSet 2 (e2 fdivD (e2 addD (eCall lenD (aCons (eVar 0) aNil)) (eC (.int 1))) (eC (.int 2))))
    (sSeq (sSet 3 (e2 fdivD (e2 addD (eCall lenD (aCons (e2 ixD (eVar 0) (eC (.int 0))) aNil)) (eC (.int 1))) (eC (.int 2))))
    (sRet (eCall tupleD (aCons (eComp [7] (iRng1' (aCons (eVar 2) aNil)) (gN 7) tTrue (eCall tupleD (aCons (eComp [9] (iRng1' (aCons (eVar 3) aNil)) (gN 9) tTrue (e2 ixD (e2 ixD (eVar 0) (e2 mulD (eC (.int 2)) (eVar 7))) (e2 mulD (eC (.int 2)) (eVar 9)))) aNil))) aNil)))))
    sNil)
    (sSeq (sIf (tVal (e2 (eqD false) (e2 ixD (eVar 1) (eC (.int 0))) (eC (.str "cut"))))
    (sSeq (sAsg (gT 4 (gsC (gN 4) (gsC (gN 5) (gsC (gN 3) (gsC (gN 2) gs0))))) (eSlc (eVar 1) (oSome (eC (.int 1))) oNone))
    (sSeq (sIf (tOrM (tVal (e2 gtD (e2 addD (eVar 4) (eVar 3)) (eCall lenD (aCons (e2 ixD (eVar 0) (eC (.int 0))) aNil)))) (tVal (e2 gtD (e2 addD (eVar 5) (eVar 2)) (eCall lenD (aCons (eVar 0) aNil)))))
    (sRet (eC .non))
    sNil)
    (sRet (eCall tupleD (aCons (eComp [7] (iRng1' (aCons (eVar 2) aNil)) (gN 7) tTrue (eCall tupleD (aCons (eComp [9] (iRng1' (aCons (eVar 3) aNil)) (gN 9) tTrue (e2 ixD (e2 ixD (eVar 0) (e2 addD (eVar 5) (eVar 7))) (e2 addD (eVar 4) (eVar 9)))) aNil))) aNil)))))
    sNil)
    (sRet (eCall tupleD (aCons (eComp [6] (iSeq (eVar 0)) (gN 6) tTrue (eCall tupleD (aCons (eComp [8] (iSeq (eVar 6)) (gN 8) tTrue (eCall F_law_worth (aCons (eVar 8) (aCons (eVar 1) aNil)))) aNil))) aNil)))))))
noncomputable def F_law_one : List D → Sto → Res D := fnS 2 10 b_law_one
noncomputable def b_law_done : MS :=
  (sSeq (sFor (iSeq (eVar 1)) (gN 2)
    (sIf (tVal (e2 (isnD true) (eVar 0) (eC .non)))
    (sSet 0 (eCall F_law_one (aCons (eVar 0) (aCons (eVar 2) aNil))))
    sNil))
    (sRet (eVar 0)))
noncomputable def F_law_done : List D → Sto → Res D := fnS 2 3 b_law_done
noncomputable def b_law_map : MS :=
  (sSeq (sSet 3 (eCall tupleD (aCons (eComp [4] (iRng1' (aCons (eVar 1) aNil)) (gN 4) tTrue (eCall tupleD (aCons (eComp [6] (iRng1' (aCons (eVar 0) aNil)) (gN 6) tTrue (e2 addD (e2 mulD (eC (.int 100)) (eVar 4)) (eVar 6))) aNil))) aNil)))
    (sRet (eCall F_law_done (aCons (eVar 3) (aCons (eComp [5] (iSeq (eVar 2)) (gN 5) (tVal (e2 (inD true) (e2 ixD (eVar 5) (eC (.int 0))) (eTup (aCons (eC (.str "light")) (aCons (eC (.str "invert")) aNil))))) (eVar 5)) aNil)))))
noncomputable def F_law_map : List D → Sto → Res D := fnS 3 7 b_law_map
end Py
set_option maxRecDepth 100000
set_option maxHeartbeats 4000000
namespace Py
open PySem PySem.Spec PyProof.Rows L2
noncomputable def b_table_of : MS :=
  (sSeq (sSet 1 (eTupR (r1 (e2 addD (eC (.int 9)) (eC (.int 1))))))
    (sSeq (sFor (iSeq (eVar 0)) (gN 2)
    (sSet 1 (eCall F_lit (aCons (eVar 1) (aCons (eVar 2) aNil)))))
    (sRet (eVar 1))))
noncomputable def F_table_of : List D → Sto → Res D := fnS 1 3 b_table_of
noncomputable def b_same : MS :=
  (sSeq (sExpr (eCall F_need_size (aCons (eVar 0) (aCons (eVar 1) aNil))))
    (sSeq (sExpr (eCall F_need_deeds (aCons (eVar 2) aNil)))
    (sSeq (sExpr (eCall F_need_deeds (aCons (eVar 3) aNil)))
    (sSeq (sIf (tVal (e2 (eqD true) (eCall F_map_of (aCons (eVar 0) (aCons (eVar 1) (aCons (eVar 2) aNil)))) (eCall F_map_of (aCons (eVar 0) (aCons (eVar 1) (aCons (eVar 3) aNil))))))
    (sRet (eC (.bl false)))
    sNil)
    (sRet (e2 (eqD false) (eCall F_table_of (aCons (eVar 2) aNil)) (eCall F_table_of (aCons (eVar 3) aNil))))))))
noncomputable def F_same : List D → Sto → Res D := fnS 4 4 b_same
noncomputable def b_law_table : MS :=
  (sSeq (sSet 1 (eNewL aNil))
    (sSeq (sFor (iRng1' (aCons (eC (.int 10)) aNil)) (gN 2)
    (sSeq (sFor (iSeq (eVar 0)) (gN 3)
    (sSet 2 (eCall F_law_worth (aCons (eVar 2) (aCons (eVar 3) aNil)))))
    (sExpr (eMethL appendD (eVar 1) (aCons (eVar 2) aNil)))))
    (sRet (eVar 1))))
noncomputable def F_law_table : List D → Sto → Res D := fnD 1 4 b_law_table
end Py
set_option maxRecDepth 100000
set_option maxHeartbeats 4000000
namespace Py
open PySem PySem.Spec PyProof.Rows L2
noncomputable def b_turned : MS :=
  (sSeq (sExpr (eCall F_need_picture (aCons (eVar 0) aNil)))
    (sRet (eCall F_turned_rows (aCons (eVar 0) aNil))))
noncomputable def F_turned : List D → Sto → Res D := fnS 1 1 b_turned
noncomputable def b_mirrored : MS :=
  (sSeq (sExpr (eCall F_need_picture (aCons (eVar 0) aNil)))
    (sRet (eCall F_mirrored_rows (aCons (eVar 0) aNil))))
noncomputable def F_mirrored : List D → Sto → Res D := fnS 1 1 b_mirrored
noncomputable def b_kin_of : MS :=
  (sSeq (sSet 1 (eNewL aNil))
    (sSeq (sFor (iSeq (eTup (aCons (eVar 0) (aCons (eCall F_mirrored_rows (aCons (eVar 0) aNil)) aNil)))) (gN 2)
    (sFor (iRng1' (aCons (eC (.int 4)) aNil)) (gN 3)
    (sSeq (sExpr (eMethL appendD (eVar 1) (aCons (eVar 2) aNil)))
    (sSet 2 (eCall F_turned_rows (aCons (eVar 2) aNil))))))
    (sRet (eVar 1))))
noncomputable def F_kin_of : List D → Sto → Res D := fnD 1 4 b_kin_of
noncomputable def b_least_kin : MS :=
  (sSeq (sExpr (eCall F_need_picture (aCons (eVar 0) aNil)))
    (sRet (eCall minTD (aCons (eCall F_kin_of (aCons (eVar 0) aNil)) aNil))))
noncomputable def F_least_kin : List D → Sto → Res D := fnS 1 1 b_least_kin
noncomputable def b_are_kin : MS :=
  (sSeq (sExpr (eCall F_need_picture (aCons (eVar 0) aNil)))
    (sSeq (sExpr (eCall F_need_picture (aCons (eVar 1) aNil)))
    (sRet (e2 (eqD false) (eCall minTD (aCons (eCall F_kin_of (aCons (eVar 0) aNil)) aNil)) (eCall minTD (aCons (eCall F_kin_of (aCons (eVar 1) aNil)) aNil))))))
noncomputable def F_are_kin : List D → Sto → Res D := fnS 2 2 b_are_kin
noncomputable def b_law_kin : MS :=
  (sSeq (sSet 1 (eNewL aNil))
    (sSeq (sFor (iSeq (eTup (aCons (eVar 0) (aCons (eCall F_law_mirrored (aCons (eVar 0) aNil)) aNil)))) (gN 2)
    (sFor (iRng1' (aCons (eC (.int 4)) aNil)) (gN 3)
    (sSeq (sExpr (eMethL appendD (eVar 1) (aCons (eVar 2) aNil)))
    (sSet 2 (eCall F_law_turned (aCons (eVar 2) aNil))))))
    (sRet (eVar 1))))
noncomputable def F_law_kin : List D → Sto → Res D := fnD 1 4 b_law_kin
end Py
set_option maxRecDepth 100000
set_option maxHeartbeats 1000000
namespace Py
open PySem PySem.Spec PyProof.Rows L2
local macro_rules | `(tactic| walk_at "ev") => `(tactic| simp (config := { decide := false }) [fnS, startF, bodyRes, sSeq, sIf, sRet, sSet, sExpr, sNil, sRaise, sRetN, sAsg, gT, gsC, gs0, gN, tVal, tAndM, tOrM, tNotM, eVar, eC, e1, e2, eAnd, eOr, eNot, eChain, eCall, eTup, eLst, eSlc, oNone, oSome, aNil, aCons, addD, subD, cmpI, negD, eMethL, appendD, lstOf])

/-- the script -/
abbrev scr (ns : List Int) : D := .fz (ns.map .int)
@[simp] theorem seqOf_scr (S : Sto) (ds : List D) : seqOf S (.fz ds) = some ds := rfl
@[simp] theorem seqOf_tup (S : Sto) (ds : List D) : seqOf S (.tup ds) = some ds := rfl
@[simp] theorem seqOf_lst (S : Sto) (ds : List D) : seqOf S (.lst ds) = some ds := rfl
@[simp] theorem lstOf_lst (S : Sto) (ds : List D) : lstOf S (.lst ds) = some ds := rfl
@[simp] theorem lenD_fz (S : Sto) (ds : List D) : lenD [.fz ds] S = .ok (.int ds.length) S := rfl
@[simp] theorem lenD_tup (S : Sto) (ds : List D) : lenD [.tup ds] S = .ok (.int ds.length) S := rfl
@[simp] theorem lenD_lst (S : Sto) (ds : List D) : lenD [.lst ds] S = .ok (.int ds.length) S := rfl
theorem atI_of {xs : List D} {i : Int} {j : Nat} (h : i = j) (hj : j < xs.length) : L2.atI xs i = some xs[j] := by
  subst h
  exact atI_nat (List.getElem?_eq_getElem hj)
def cellV (ns : List Int) (k : Nat) : Int := if k < ns.length then ns.getD k 0 else if ns = [] then 0 else (ns.getD (k % ns.length) 0) * 31 + k
theorem toPs_ints (f : Nat) (S : Sto) : ∀ ns : List Int, toPs (toP (f + 1) S) (ns.map .int) = some (ns.map .int)
  | [] => rfl
  | n :: ns => by simp only [List.map_cons, toPs, toP, toPs_ints f S ns]
theorem dP_scr (S : Sto) (ns : List Int) : dP S (scr ns) = some (.list (ns.map .int)) := by
  simp only [dP, toP, toPs_ints]; rfl
theorem ix_fz {S : Sto} {ds : List D} {i : Int} {j : Nat} (h : i = j) (hj : j < ds.length) : ixD (.fz ds) (.int i) S = .ok ds[j] S := by
  simp only [ixD, seqOf_scr, ixL, atI_of h hj]
theorem ix_tup {S : Sto} {ds : List D} {i : Int} {j : Nat} (h : i = j) (hj : j < ds.length) : ixD (.tup ds) (.int i) S = .ok ds[j] S := by
  simp only [ixD, seqOf_tup, ixL, atI_of h hj]
theorem ix_lst {S : Sto} {ds : List D} {i : Int} {j : Nat} (h : i = j) (hj : j < ds.length) : ixD (.lst ds) (.int i) S = .ok ds[j] S := by
  simp only [ixD, seqOf_lst, ixL, atI_of h hj]
theorem F_cell (ns : List Int) (k : Nat) (S : Sto) : F_law_cell_at [scr ns, .int k] S = .ok (.int (cellV ns k)) S := by
  unfold F_law_cell_at b_law_cell_at cellV
  by_cases h : k < ns.length
  · have := ix_fz (S := S) (ds := ns.map .int) (i := (k : Int)) rfl (by simpa using h)
    walk_at "ev"
    simp [h, this]
  · by_cases e : ns = []
    · subst e
      have h0 : ¬ ((k : Int) < 0) := by omega
      walk_at "ev"
      simp [h0, eqD, dP, toP, toPs, PyData.eqv, PyData.eqvAll]
    · have hm : k % ns.length < ns.length := Nat.mod_lt _ (List.length_pos_iff.2 e)
      have hi : ((k : Int) % (ns.length : Int)) = ((k % ns.length : Nat) : Int) := by omega
      have := ix_fz (S := S) (ds := ns.map .int) hi (by simpa using hm)
      have hne : eqD false (scr ns) (.lst []) S = .ok (.bl false) S := by
        simp only [eqD, dP_scr]
        cases ns with
        | nil => exact absurd rfl e
        | cons a b => simp [dP, toP, toPs, PyData.eqv, PyData.eqvAll]
      have hl : 0 < ns.length := List.length_pos_iff.2 e
      walk_at "ev"
      have s31 : smallI 31 := ⟨by decide, by decide⟩
      simp [h, hne, e, modD, hl, this, mulD, s31]
      simp [List.getD, hm]
theorem cellV_bound (ns : List Int) (k : Nat) : True := trivial
def mixV (ns : List Int) (k : Nat) (many : Int) : Int :=
  let d := (cellV ns k + 7919 * k + 1) * 48271 % 2147483647
  (d * d + 7 * d + k) % 2147483629 % many
theorem mixV_range (ns : List Int) (k : Nat) {many : Int} (h : 0 < many) : 0 ≤ mixV ns k many ∧ mixV ns k many < many :=
  ⟨Int.emod_nonneg _ (by omega), Int.emod_lt_of_pos _ h⟩
theorem F_mixed (ns : List Int) (k : Nat) {many : Int} (h : 0 < many) (S : Sto) : F_law_mixed [scr ns, .int k, .int many] S = .ok (.int (mixV ns k many)) S := by
  unfold F_law_mixed b_law_mixed mixV
  have hc := F_cell ns k S
  have s1 : smallI 7919 := ⟨by decide, by decide⟩
  have s2 : smallI 48271 := ⟨by decide, by decide⟩
  have s3 : smallI 7 := ⟨by decide, by decide⟩
  generalize hd : (cellV ns k + 7919 * (k : Int) + 1) * 48271 % 2147483647 = d
  have s4 : smallI d := by
    have a1 : 0 ≤ d := by rw [← hd]; exact Int.emod_nonneg _ (by decide)
    have a2 : d < 2147483647 := by rw [← hd]; exact Int.emod_lt_of_pos _ (by decide)
    unfold smallI
    omega
  walk_at "ev"
  simp [hc, mulD, s1, s2, s3, s4, modD, hd, h]
/-- the draws made so far, at the store's first place -/
abbrev Tn (n : Nat) (rest : Sto) : Sto := .lst (List.replicate n (.int 0)) :: rest
theorem F_draw (ns : List Int) (n : Nat) {many : Int} (h : 0 < many) (hn : n < 900000) (rest : Sto) : F_law_draw [scr ns, .ref 0, .int many] (Tn n rest) = .ok (.int (mixV ns (n + 1) many)) (Tn (n + 1) rest) := by
  unfold F_law_draw b_law_draw
  have hm := F_mixed ns (n + 1) h (Tn (n + 1) rest)
  have hl : n < sz := by unfold sz; omega
  have e : (List.replicate n (D.int 0)) ++ [D.int 0] = List.replicate (n + 1) (.int 0) := by rw [List.replicate_succ']
  have hm' : F_law_mixed [scr ns, D.int (↑n + 1), D.int many] (Tn (n + 1) rest) = Res.ok (D.int (mixV ns (n + 1) many)) (Tn (n + 1) rest) := by simpa using hm
  walk_at "ev"
  simp [hl, e, lenD, seqOf, lstOf]
  simp [hm']
theorem F_pick (ns : List Int) (n : Nat) (hn : n < 900000) (rest : Sto) {ds : List D} (hd : 0 < ds.length) :
    ∃ (j : Nat) (hj : j < ds.length), F_law_pick [scr ns, .ref 0, .lst ds] (Tn n rest) = .ok ds[j] (Tn (n + 1) rest) := by
  have hr := mixV_range ns (n + 1) (many := (ds.length : Int)) (by omega)
  refine ⟨(mixV ns (n + 1) (ds.length : Int)).toNat, by omega, ?_⟩
  unfold F_law_pick b_law_pick
  have hm := F_draw ns n (many := (ds.length : Int)) (by omega) hn rest
  have := ix_lst (S := Tn (n + 1) rest) (ds := ds) (i := mixV ns (n + 1) (ds.length : Int)) (j := (mixV ns (n + 1) (ds.length : Int)).toNat) (by omega) (by omega)
  walk_at "ev"
  simp [hm, this]
end Py
set_option maxRecDepth 100000
set_option maxHeartbeats 1000000
namespace Py
open PySem PySem.Spec PyProof.Rows L2
local macro_rules | `(tactic| walk_at "ev") => `(tactic| simp (config := { decide := false }) [fnS, startF, bodyRes, sSeq, sIf, sRet, sSet, sExpr, sNil, sRaise, sRetN, sAsg, gT, gsC, gs0, gN, tVal, tAndM, tOrM, tNotM, eVar, eC, e1, e2, eAnd, eOr, eNot, eChain, eCall, eTup, eLst, eSlc, oNone, oSome, aNil, aCons, addD, subD, cmpI, negD, eMethL, appendD, lstOf])
/-! ### comprehensions -/
theorem compL_st {it : Its} {g : MG} {c : MT} {e : ME} {fr : Fr} (φ : Nat → D) (σ : Nat → Sto) : ∀ (ds : List D) (i : Nat) (acc : List D),
    (∀ (j : Nat) (d : D), ds[j]? = some d → okG it (σ (i + j)) ∧ ∃ fr1, g d fr = some fr1 ∧ c fr1 (σ (i + j)) = .ok true (σ (i + j)) ∧ e fr1 (σ (i + j)) = .ok (φ (i + j)) (σ (i + j + 1))) → okG it (σ (i + ds.length)) → acc.length + ds.length ≤ sz →
    compL it g c e fr ds (σ i) acc = .ok (acc ++ (List.range ds.length).map fun j => φ (i + j)) (σ (i + ds.length))
  | [], i, acc, h, ho, hl => by
    simp only [compL]
    rw [if_pos (by simpa using ho)]
    simp
  | d :: ds, i, acc, h, ho, hl => by
    obtain ⟨h0, fr1, h1, h2, h3⟩ := h 0 d rfl
    simp only [Nat.add_zero] at h0 h1 h2 h3
    simp only [compL]
    rw [if_pos ⟨h0, by simp at hl; omega⟩, h1]
    simp only [h2, h3]
    rw [compL_st φ σ ds (i + 1) (acc ++ [φ i]) (fun j d' hj => ?_) (by simp at ho ⊢; rw [show i + 1 + ds.length = i + (ds.length + 1) by omega]; exact ho) (by simp at hl ⊢; omega)]
    · congr 1
      · rw [List.append_assoc]
        congr 1
        simp only [List.length_cons, List.range_succ_eq_map, List.map_cons, List.map_map, Nat.add_zero, List.singleton_append]
        congr 1
        apply List.map_congr_left
        intro a _
        simp only [Function.comp]
        congr 1
        omega
      · simp only [List.length_cons]
        congr 1
        omega
    · have := h (j + 1) d' (by simpa using hj)
      rw [show i + (j + 1) = i + 1 + j by omega] at this
      exact this
theorem eComp_st {vs : List Nat} {fi : MI} {g : MG} {c : MT} {e : ME} {fr : Fr} {S S1 : Sto} {it : Its} (hf : fi fr S = .ok it S1) (φ : Nat → D) (σ : Nat → Sto) (h0 : σ 0 = S1) (hl : it.items.length ≤ sz)
    (h : ∀ (j : Nat) (d : D), it.items[j]? = some d → okG it (σ j) ∧ ∃ fr1, g d (wipeF fr vs) = some fr1 ∧ c fr1 (σ j) = .ok true (σ j) ∧ e fr1 (σ j) = .ok (φ j) (σ (j + 1))) (ho : okG it (σ it.items.length)) :
    eComp vs fi g c e fr S = .ok (.lst ((List.range it.items.length).map φ)) (σ it.items.length) := by
  unfold eComp
  rw [hf, Res.bind_ok, ← h0, compL_st φ σ it.items 0 [] (fun j d hj => by simpa using h j d hj) (by simpa using ho) (by simpa using hl)]
  simp
theorem compL_map {it : Its} {g : MG} {c : MT} {e : ME} {fr : Fr} {S : Sto} (ho : okG it S) (p : D → Bool) (φ : D → D) : ∀ (ds acc : List D), (∀ d ∈ ds, ∃ fr1, g d fr = some fr1 ∧ c fr1 S = .ok (p d) S ∧ (p d = true → e fr1 S = .ok (φ d) S)) → acc.length + ds.length ≤ sz →
    compL it g c e fr ds S acc = .ok (acc ++ (ds.filter p).map φ) S
  | [], acc, h, hl => by simp only [compL]; rw [if_pos ho]; simp
  | d :: ds, acc, h, hl => by
    obtain ⟨fr1, h1, h2, h3⟩ := h d (List.mem_cons_self ..)
    have ih := fun acc' => compL_map ho p φ ds acc' (fun d' hd => h d' (List.mem_cons_of_mem _ hd))
    simp only [compL]
    rw [if_pos ⟨ho, by simp at hl; omega⟩, h1]
    simp only [h2]
    cases e1 : p d with
    | true =>
      simp only [h3 e1]
      rw [ih _ (by simp at hl ⊢; omega), List.filter_cons_of_pos e1]
      simp
    | false =>
      simp only
      rw [ih _ (by simp at hl ⊢; omega), List.filter_cons_of_neg (by simp [e1])]
theorem eComp_filter {vs : List Nat} {fi : MI} {g : MG} {c : MT} {e : ME} {fr : Fr} {S S1 : Sto} {it : Its} (hf : fi fr S = .ok it S1) (ho : okG it S1) (hl : it.items.length ≤ sz) (p : D → Bool) (φ : D → D)
    (h : ∀ d ∈ it.items, ∃ fr1, g d (wipeF fr vs) = some fr1 ∧ c fr1 S1 = .ok (p d) S1 ∧ (p d = true → e fr1 S1 = .ok (φ d) S1)) : eComp vs fi g c e fr S = .ok (.lst ((it.items.filter p).map φ)) S1 := by
  unfold eComp
  rw [hf, Res.bind_ok, compL_map ho p φ it.items [] h (by simpa using hl)]
  simp
theorem eComp_map {vs : List Nat} {fi : MI} {g : MG} {e : ME} {fr : Fr} {S S1 : Sto} {it : Its} (hf : fi fr S = .ok it S1) (ho : okG it S1) (hl : it.items.length ≤ sz) (φ : D → D)
    (h : ∀ d ∈ it.items, ∃ fr1, g d (wipeF fr vs) = some fr1 ∧ e fr1 S1 = .ok (φ d) S1) : eComp vs fi g tTrue e fr S = .ok (.lst (it.items.map φ)) S1 := by
  have := eComp_filter (vs := vs) (g := g) (c := tTrue) (e := e) hf ho hl (fun _ => true) φ (fun d hd => by
    obtain ⟨fr1, h1, h2⟩ := h d hd
    exact ⟨fr1, h1, rfl, fun _ => h2⟩)
  rw [this, List.filter_eq_self.2 (by simp)]
/-- over a tuple or a list by value, one name -/
theorem comp_seq {vs : List Nat} {i : Nat} {f e : ME} {fr : Fr} {S S1 : Sto} {ds : List D} (hf : f fr S = .ok (.tup ds) S1 ∨ f fr S = .ok (.lst ds) S1) (hl : ds.length ≤ sz) (φ : D → D) (h : ∀ d ∈ ds, e ((wipeF fr vs).set i (some d)) S1 = .ok (φ d) S1) :
    eComp vs (iSeq f) (gN i) tTrue e fr S = .ok (.lst (ds.map φ)) S1 := by
  have hi : iSeq f fr S = .ok ⟨ds, none⟩ S1 := by rcases hf with hf | hf <;> simp [iSeq, hf, seqIts]
  exact eComp_map hi trivial hl φ fun d hd => ⟨_, rfl, h d hd⟩
theorem comp_rng {vs : List Nat} {i : Nat} {f : MA} {e : ME} {fr : Fr} {S S1 : Sto} {n : Int} (hf : f fr S = .ok [.int n] S1) (h0 : 0 ≤ n) (hl : n ≤ 1000000) (φ : Nat → D) (h : ∀ k : Nat, (k : Int) < n → e ((wipeF fr vs).set i (some (.int k))) S1 = .ok (φ k) S1) :
    eComp vs (iRng1' f) (gN i) tTrue e fr S = .ok (.lst ((List.range n.toNat).map φ)) S1 := by
  have hi : iRng1' f fr S = .ok ⟨rngD 0 n.toNat, none⟩ S1 := by
    simp only [iRng1', hf, Res.bind_ok]
    rw [if_pos ⟨by omega, by omega⟩]
  have := eComp_st (vs := vs) (g := gN i) (c := tTrue) (e := e) hi φ (fun _ => S1) rfl (by rw [rngD_len]; unfold sz; omega) (fun j d hj => ⟨trivial, _, rfl, rfl, ?_⟩) trivial
  · rw [this, rngD_len]
  · have hjn : j < n.toNat := by have := (List.getElem?_eq_some_iff.1 hj).1; rw [rngD_len] at this; exact this
    rw [rngD_get hjn] at hj
    cases hj
    have := h j (by omega)
    simpa using this
/-! ### rows -/
abbrev rowsD (rs : List (List D)) : D := .tup (rs.map .tup)
def Rect {α : Type} (w : Nat) (rs : List (List α)) : Prop := ∀ r ∈ rs, r.length = w
def hd0 {α : Type} : List (List α) → List α
  | [] => []
  | r :: _ => r
def turnR {α : Type} (rs : List (List α)) : List (List α) := (List.range (hd0 rs).length).map fun k => rs.reverse.filterMap (·[k]?)
def mirR {α : Type} (rs : List (List α)) : List (List α) := rs.map List.reverse
theorem fm_getD {w k : Nat} (hk : k < w) : ∀ {rs : List (List D)}, Rect w rs → rs.filterMap (·[k]?) = rs.map fun r => r.getD k .non
  | [], _ => rfl
  | r :: rs, h => by
    have h1 : r.length = w := h r (List.mem_cons_self ..)
    have ih := fm_getD hk (rs := rs) fun r' hr => h r' (List.mem_cons_of_mem _ hr)
    have e : r[k]? = some (r.getD k .non) := by
      rw [List.getElem?_eq_getElem (by omega)]
      simp [List.getD, h1, hk]
    rw [List.filterMap_cons]
    simp only [e, ih, List.map_cons]
theorem Rect.rev {α : Type} {w : Nat} {rs : List (List α)} (h : Rect w rs) : Rect w rs.reverse := fun r hr => h r (List.mem_reverse.1 hr)
theorem Rect.head {α : Type} {w : Nat} {rs : List (List α)} (h : Rect w rs) (hne : rs ≠ []) : (hd0 rs).length = w := by
  cases rs with
  | nil => exact absurd rfl hne
  | cons r rs => exact h r (List.mem_cons_self ..)
theorem rect_cons {rs : List (List D)} (hne : rs ≠ []) : ∃ r rs', rs = r :: rs' := by
  cases rs with
  | nil => exact absurd rfl hne
  | cons r rs' => exact ⟨r, rs', rfl⟩
theorem ix_row0 {rs : List (List D)} (hne : rs ≠ []) (S : Sto) : ixD (rowsD rs) (.int 0) S = .ok (.tup (hd0 rs)) S := by
  obtain ⟨r, rs', rfl⟩ := rect_cons hne
  exact ix_tup (ds := (r :: rs').map .tup) (i := 0) (j := 0) rfl (by simp)
theorem ix_row {rs : List (List D)} {i : Int} {j : Nat} (h : i = j) (hj : j < rs.length) (S : Sto) : ixD (rowsD rs) (.int i) S = .ok (.tup rs[j]) S := by
  have := ix_tup (S := S) (ds := rs.map .tup) h (by simpa using hj)
  rw [this]; simp
theorem ix_cell {w k : Nat} {r : List D} (hl : r.length = w) (hk : k < w) (S : Sto) : ixD (.tup r) (.int k) S = .ok (r.getD k .non) S := by
  have := ix_tup (S := S) (ds := r) (i := (k : Int)) rfl (by omega)
  rw [this]
  simp [List.getD, hl, hk]
theorem F_turnedQ {rs : List (List D)} {w : Nat} (hr : Rect w rs) (hne : rs ≠ []) (hw : w ≤ 1000) (hl : rs.length ≤ 1000) (S : Sto) : F_turned_rows [rowsD rs] S = .ok (rowsD (turnR rs)) S := by
  have h0 := ix_row0 hne S
  have hh := hr.head hne
  have e : F_turned_rows [rowsD rs] S = bodyRes (b_turned_rows [some (rowsD rs), none, none] S) := rfl
  unfold b_turned_rows at e
  rw [e, sRet, eCall, aCons, comp_rng (S1 := S) (n := (w : Int)) (φ := fun k => .tup (rs.reverse.filterMap (·[k]?)))]
  · simp [aNil, tupleD, turnR, hh, bodyRes, Function.comp]
  · simp [aCons, aNil, eCall, e2, eVar, eC, h0, hh]
  · omega
  · omega
  · intro k hk
    rw [eCall, aCons, comp_seq (S1 := S) (ds := rs.reverse.map .tup) (φ := fun d => match d with | .tup r => r.getD k .non | _ => .non)]
    · rw [fm_getD (w := w) (by omega) hr.rev]
      simp [aNil, tupleD, List.map_map, Function.comp]
    · left; simp [wipeF, eStep, eVar, stepL]
    · simp; unfold sz; omega
    · intro d hd
      obtain ⟨r, hr', rfl⟩ := List.mem_map.1 hd
      simp [wipeF, e2, eVar, ix_cell (hr.rev r hr') (show k < w by omega)]
theorem F_mirroredQ {rs : List (List D)} (hl : rs.length ≤ 1000) (S : Sto) : F_mirrored_rows [rowsD rs] S = .ok (rowsD (mirR rs)) S := by
  have e : F_mirrored_rows [rowsD rs] S = bodyRes (b_mirrored_rows [some (rowsD rs), none] S) := rfl
  unfold b_mirrored_rows at e
  rw [e, sRet, eCall, aCons, comp_seq (S1 := S) (ds := rs.map .tup) (φ := fun d => match d with | .tup r => .tup r.reverse | _ => .non)]
  · simp [aNil, tupleD, bodyRes, mirR, Function.comp]
  · left; simp [eVar]
  · simp; unfold sz; omega
  · intro d hd
    obtain ⟨r, hr', rfl⟩ := List.mem_map.1 hd
    simp [wipeF, eStep, eVar, stepL]
end Py
set_option maxRecDepth 100000
set_option maxHeartbeats 1000000
namespace Py
open PySem PySem.Spec PyProof.Rows L2
local macro_rules | `(tactic| walk_at "ev") => `(tactic| simp (config := { decide := false }) [fnS, startF, bodyRes, sSeq, sIf, sRet, sSet, sExpr, sNil, sRaise, sRetN, sAsg, gT, gsC, gs0, gN, tVal, tAndM, tOrM, tNotM, eVar, eC, e1, e2, eAnd, eOr, eNot, eChain, eCall, eTup, eLst, eSlc, oNone, oSome, aNil, aCons, addD, subD, cmpI, negD, eMethL, appendD, lstOf])
/-! ### isinstance -/
theorem isi_ok {S : Sto} {x : D} {t c : String} {b : Bool} (h : tyOf S x = some t) (k : kitB t c = some b) : isiD [x, .ty c] S = .ok (.bl b) S := by simp only [isiD, h, k]
theorem kb_n_i : kitB "NoneType" "int" = some false := by decide +kernel
theorem kb_b_i : kitB "bool" "int" = some true := by decide +kernel
theorem kb_i_i : kitB "int" "int" = some true := by decide +kernel
theorem kb_s_i : kitB "str" "int" = some false := by decide +kernel
theorem kb_t_i : kitB "tuple" "int" = some false := by decide +kernel
theorem kb_l_i : kitB "list" "int" = some false := by decide +kernel
theorem kb_d_i : kitB "dict" "int" = some false := by decide +kernel
theorem kb_b_b : kitB "bool" "bool" = some true := by decide +kernel
theorem kb_i_b : kitB "int" "bool" = some false := by decide +kernel
theorem kb_n_t : kitB "NoneType" "tuple" = some false := by decide +kernel
theorem kb_b_t : kitB "bool" "tuple" = some false := by decide +kernel
theorem kb_i_t : kitB "int" "tuple" = some false := by decide +kernel
theorem kb_s_t : kitB "str" "tuple" = some false := by decide +kernel
theorem kb_t_t : kitB "tuple" "tuple" = some true := by decide +kernel
theorem kb_l_t : kitB "list" "tuple" = some false := by decide +kernel
theorem kb_d_t : kitB "dict" "tuple" = some false := by decide +kernel
theorem kb_n_s : kitB "NoneType" "str" = some false := by decide +kernel
theorem kb_b_s : kitB "bool" "str" = some false := by decide +kernel
theorem kb_i_s : kitB "int" "str" = some false := by decide +kernel
theorem kb_s_s : kitB "str" "str" = some true := by decide +kernel
theorem kb_t_s : kitB "tuple" "str" = some false := by decide +kernel
theorem kb_l_s : kitB "list" "str" = some false := by decide +kernel
theorem kb_d_s : kitB "dict" "str" = some false := by decide +kernel
theorem tyOf_cases {S : Sto} {x : D} {t : String} (h : tyOf S x = some t) : t = "NoneType" ∨ t = "bool" ∨ t = "int" ∨ t = "str" ∨ t = "tuple" ∨ t = "list" ∨ t = "dict" := by
  cases x with
  | ref n =>
    simp only [tyOf] at h
    split at h
    · cases h; simp
    · cases h; simp
    · cases h
  | adr a => cases h
  | ty a => cases h
  | fz a => cases h
  | _ => cases h; simp
/-- a thing whose type is told -/
abbrev Ty (S : Sto) (x : D) : Prop := ∃ t, tyOf S x = some t
def isI : D → Bool
  | .int _ => true
  | .bl _ => true
  | _ => false
def isB : D → Bool
  | .bl _ => true
  | _ => false
def isT : D → Bool
  | .tup _ => true
  | _ => false
def isS : D → Bool
  | .str _ => true
  | _ => false
theorem isi_int {S : Sto} {x : D} (h : Ty S x) : isiD [x, .ty "int"] S = .ok (.bl (isI x)) S := by
  obtain ⟨t, h⟩ := h
  cases x with
  | non => exact isi_ok h (by cases h; exact kb_n_i)
  | bl b => exact isi_ok h (by cases h; exact kb_b_i)
  | int b => exact isi_ok h (by cases h; exact kb_i_i)
  | str b => exact isi_ok h (by cases h; exact kb_s_i)
  | tup b => exact isi_ok h (by cases h; exact kb_t_i)
  | lst b => exact isi_ok h (by cases h; exact kb_l_i)
  | ref n =>
    refine isi_ok h ?_
    simp only [tyOf] at h
    split at h
    · cases h; exact kb_l_i
    · cases h; exact kb_d_i
    · cases h
  | _ => cases h
theorem isi_tup {S : Sto} {x : D} (h : Ty S x) : isiD [x, .ty "tuple"] S = .ok (.bl (isT x)) S := by
  obtain ⟨t, h⟩ := h
  cases x with
  | non => exact isi_ok h (by cases h; exact kb_n_t)
  | bl b => exact isi_ok h (by cases h; exact kb_b_t)
  | int b => exact isi_ok h (by cases h; exact kb_i_t)
  | str b => exact isi_ok h (by cases h; exact kb_s_t)
  | tup b => exact isi_ok h (by cases h; exact kb_t_t)
  | lst b => exact isi_ok h (by cases h; exact kb_l_t)
  | ref n =>
    refine isi_ok h ?_
    simp only [tyOf] at h
    split at h
    · cases h; exact kb_l_t
    · cases h; exact kb_d_t
    · cases h
  | _ => cases h
theorem isi_str {S : Sto} {x : D} (h : Ty S x) : isiD [x, .ty "str"] S = .ok (.bl (isS x)) S := by
  obtain ⟨t, h⟩ := h
  cases x with
  | non => exact isi_ok h (by cases h; exact kb_n_s)
  | bl b => exact isi_ok h (by cases h; exact kb_b_s)
  | int b => exact isi_ok h (by cases h; exact kb_i_s)
  | str b => exact isi_ok h (by cases h; exact kb_s_s)
  | tup b => exact isi_ok h (by cases h; exact kb_t_s)
  | lst b => exact isi_ok h (by cases h; exact kb_l_s)
  | ref n =>
    refine isi_ok h ?_
    simp only [tyOf] at h
    split at h
    · cases h; exact kb_l_s
    · cases h; exact kb_d_s
    · cases h
  | _ => cases h
theorem isi_bool {S : Sto} {x : D} (h : isI x = true) : isiD [x, .ty "bool"] S = .ok (.bl (isB x)) S := by
  cases x with
  | bl b => exact isi_ok rfl kb_b_b
  | int b => exact isi_ok rfl kb_i_b
  | _ => cases h
/-! ### whole numbers, pictures -/
def isW (lo hi : Int) : D → Bool
  | .int i => decide (lo ≤ i) && decide (i ≤ hi)
  | _ => false
theorem F_whole {S : Sto} {x : D} {lo hi : Int} (h : Ty S x) : F_is_whole [x, .int lo, .int hi] S = .ok (.bl (isW lo hi x)) S := by
  unfold F_is_whole b_is_whole
  have h1 := isi_int h
  cases x with
  | int i =>
    have h2 := isi_bool (S := S) (x := .int i) rfl
    by_cases c : lo ≤ i <;> (walk_at "ev"; simp [h1, h2, isI, isB, isW, c])
  | bl b =>
    have h2 := isi_bool (S := S) (x := .bl b) rfl
    walk_at "ev"; simp [h1, h2, isI, isB, isW]
  | _ => walk_at "ev"; simp [h1, isI, isW]
/-- a thing of which is_picture may be asked -/
def Ty3 (S : Sto) (x : D) : Prop := Ty S x ∧ ∀ rows, x = .tup rows → ∀ r ∈ rows, Ty S r ∧ ∀ cs, r = .tup cs → ∀ c ∈ cs, Ty S c
def rowOk : D → Bool
  | .tup cs => decide (1 ≤ cs.length) && decide (cs.length ≤ 8)
  | _ => false
def lenOf : D → Nat
  | .tup cs => cs.length
  | _ => 0
def cellsOk : D → Bool
  | .tup cs => cs.all (isW 0 9)
  | _ => false
def isPic : D → Bool
  | .tup rows => decide (1 ≤ rows.length) && decide (rows.length ≤ 8) && rows.all rowOk && rows.all (fun r => lenOf r == lenOf (rows.headD .non)) && rows.all cellsOk
  | _ => false
@[simp] theorem blsOf_map' {α : Type} (f : α → Bool) (xs : List α) : blsOf (xs.map fun a => D.bl (f a)) = some (xs.map f) := by
  have := blsOf_map (xs.map f)
  rw [List.map_map] at this
  exact this
theorem allD_map {S : Sto} (f : D → Bool) (xs : List D) : allD [.lst (xs.map fun a => D.bl (f a))] S = .ok (.bl (xs.all f)) S := by
  simp [allD, boolsD, List.all_map]
theorem allD_map' {α : Type} {S : Sto} (f : α → Bool) (xs : List α) : allD [.lst (xs.map fun a => D.bl (f a))] S = .ok (.bl (xs.all f)) S := by
  simp [allD, boolsD, List.all_map]
theorem eqD_int (S : Sto) (i j : Int) : eqD false (.int i) (.int j) S = .ok (.bl (decide (i = j))) S := by
  simp only [eqD, dP, toP, PyData.eqv, if_neg Bool.false_ne_true]
  congr 2
theorem neD_int (S : Sto) (i j : Int) : eqD true (.int i) (.int j) S = .ok (.bl (!decide (i = j))) S := by
  simp only [eqD, dP, toP, PyData.eqv, if_true]
  congr 3
theorem F_pic {S : Sto} {x : D} (h : Ty3 S x) : F_is_picture [x] S = .ok (.bl (isPic x)) S := by
  have e : F_is_picture [x] S = bodyRes (b_is_picture [some x, none, none] S) := rfl
  rw [e]
  unfold b_is_picture
  have h1 := isi_tup h.1
  cases x with
  | tup rows =>
    have hT := h.2 rows rfl
    by_cases hl : 1 ≤ rows.length ∧ rows.length ≤ 8
    · have hi : (1 : Int) ≤ (rows.length : Int) := by omega
      have hi8 : (rows.length : Int) ≤ 8 := by omega
      have hne : rows ≠ [] := by intro z; rw [z] at hl; simp at hl
      walk_at "ev"
      simp [h1, isT, hi, hi8]
      rw [comp_seq (S1 := S) (ds := rows) (φ := fun r => .bl (rowOk r))]
      · cases e1 : rows.all rowOk with
        | false =>
          have a1 := allD_map (S := S) rowOk rows
          rw [e1] at a1
          simp [a1, isPic, e1]
        | true =>
          have a1 := allD_map (S := S) rowOk rows
          rw [e1] at a1
          have hrow : ∀ r ∈ rows, ∃ cs, r = .tup cs ∧ cs.length ≤ 8 := fun r hr => by
            have := List.all_eq_true.1 e1 r hr
            cases r with
            | tup cs => simp [rowOk] at this; exact ⟨cs, rfl, this.2⟩
            | _ => simp [rowOk] at this
          simp [a1]
          rw [comp_seq (S1 := S) (ds := rows) (φ := fun r => .bl (lenOf r == lenOf (rows.headD .non)))]
          · cases e2 : rows.all (fun r => lenOf r == lenOf (rows.headD .non)) with
            | false =>
              have a2 := allD_map (S := S) (fun r => lenOf r == lenOf (rows.headD .non)) rows
              rw [e2] at a2
              rw [Res.bind_ok, Res.bind_ok, a2]
              simp only [Res.bind_ok, Res.then_ok, Bool.not_false, if_true, isPic, e2, Bool.and_false, Bool.false_and]
            | true =>
              have a2 := allD_map (S := S) (fun r => lenOf r == lenOf (rows.headD .non)) rows
              rw [e2] at a2
              rw [Res.bind_ok, Res.bind_ok, a2]
              simp only [Res.bind_ok, Res.then_ok, Bool.not_true, if_neg Bool.false_ne_true]
              rw [comp_seq (S1 := S) (ds := rows) (φ := fun r => .bl (cellsOk r))]
              · have a3 := allD_map (S := S) cellsOk rows
                rw [Res.bind_ok, Res.bind_ok, a3]
                simp only [Res.then_ok, isPic, e1, e2, Bool.and_true, decide_eq_true hl.1, decide_eq_true hl.2, Bool.true_and]
              · left; simp [eVar]
              · unfold sz; omega
              · intro r hr
                obtain ⟨cs, rfl, hc8⟩ := hrow r hr
                have hcs := (hT _ hr).2 cs rfl
                rw [eCall, aCons, comp_seq (S1 := S) (ds := cs) (φ := fun c => .bl (isW 0 9 c))]
                · have a4 := allD_map (S := S) (isW 0 9) cs
                  simp only [Res.bind_ok, aNil, a4, cellsOk]
                · left; simp [eVar, wipeF]
                · unfold sz; omega
                · intro c hc
                  have := F_whole (S := S) (lo := 0) (hi := 9) (hcs c hc)
                  simp [wipeF, eCall, aCons, aNil, eVar, eC, this]
          · left; simp [eVar]
          · unfold sz; omega
          · intro r hr
            obtain ⟨cs, rfl, hc8⟩ := hrow r hr
            have h0 : ∃ c0, rows.headD .non = .tup c0 ∧ ixD (.tup rows) (.int 0) S = .ok (.tup c0) S := by
              cases rows with
              | nil => exact absurd rfl hne
              | cons r0 rr =>
                obtain ⟨c0, e0, _⟩ := hrow r0 (List.mem_cons_self ..)
                exact ⟨c0, e0, by rw [ix_tup (ds := r0 :: rr) (i := 0) (j := 0) rfl (by simp)]; simp [e0]⟩
            obtain ⟨c0, q1, q2⟩ := h0
            simp only [q1, lenOf]
            have z : decide ((cs.length : Int) = (c0.length : Int)) = (cs.length == c0.length) := by rw [Bool.eq_iff_iff]; simp; omega
            simp only [wipeF, e2, eCall, aCons, aNil, eVar, eC, q2, eqD_int, Res.bind_ok, lenD_tup, List.set_cons_succ, List.set_cons_zero, List.getElem?_cons_succ, List.getElem?_cons_zero, List.foldl, z]
      · left; simp [eVar]
      · unfold sz; omega
      · intro r hr
        have h2 := isi_tup (hT r hr).1
        cases r with
        | tup cs =>
          by_cases c : 1 ≤ cs.length
          · have c' : (1 : Int) ≤ (cs.length : Int) := by omega
            simp [wipeF, eAnd, eCall, aCons, aNil, eVar, eC, h2, isT, eChain, cmpI, rowOk, c, c']
            omega
          · have c' : ¬ (1 : Int) ≤ (cs.length : Int) := by omega
            simp [wipeF, eAnd, eCall, aCons, aNil, eVar, eC, h2, isT, eChain, cmpI, rowOk, c, c']
        | _ => simp [wipeF, eAnd, eCall, aCons, aNil, eVar, eC, h2, isT, rowOk]
    · have hp : isPic (.tup rows) = false := by
        simp only [isPic]
        by_cases c : 1 ≤ rows.length
        · have : ¬ rows.length ≤ 8 := fun z => hl ⟨c, z⟩
          simp [this]
        · simp [c]
      by_cases c : 1 ≤ rows.length
      · have c1 : (1 : Int) ≤ (rows.length : Int) := by omega
        have c2 : ¬ (rows.length : Int) ≤ 8 := fun z => hl ⟨c, by omega⟩
        walk_at "ev"
        simp [h1, isT, c1, c2, hp]
      · have c1 : ¬ (1 : Int) ≤ (rows.length : Int) := by omega
        walk_at "ev"
        simp [h1, isT, c1, hp]
  | _ => walk_at "ev"; simp [h1, isT, isPic]
end Py
set_option maxRecDepth 100000
set_option maxHeartbeats 1000000
namespace Py
open PySem PySem.Spec PyProof.Rows L2
local macro_rules | `(tactic| walk_at "ev") => `(tactic| simp (config := { decide := false }) [fnS, startF, bodyRes, sSeq, sIf, sRet, sSet, sExpr, sNil, sRaise, sRetN, sAsg, gT, gsC, gs0, gN, tVal, tAndM, tOrM, tNotM, eVar, eC, e1, e2, eAnd, eOr, eNot, eChain, eCall, eTup, eLst, eSlc, oNone, oSome, aNil, aCons, addD, subD, cmpI, negD, eMethL, appendD, lstOf])
/-! ### evaluation -/
section
variable (f g h : ME) (a : MA) (p q : MT) (fr : Fr) (S : Sto)
@[simp] theorem ap_var (i : Nat) : eVar i fr S = (match fr[i]? with | some (some d) => .ok d S | _ => .bad) := id rfl
@[simp] theorem ap_c (d : D) : eC d fr S = .ok d S := id rfl
@[simp] theorem ap_1 (op : D → Sto → Res D) : e1 op f fr S = (f fr S).bind op := id rfl
@[simp] theorem ap_2 (op : D → D → Sto → Res D) : e2 op f g fr S = (f fr S).bind fun x S => (g fr S).bind fun y S => op x y S := id rfl
@[simp] theorem ap_val : tVal f fr S = (f fr S).bind fun d S => match d with | .bl b => .ok b S | _ => .bad := id rfl
@[simp] theorem ap_tand : tAndM p q fr S = (p fr S).bind fun b S => if b then q fr S else .ok false S := id rfl
@[simp] theorem ap_tor : tOrM p q fr S = (p fr S).bind fun b S => if b then .ok true S else q fr S := id rfl
@[simp] theorem ap_tnot : tNotM p fr S = (p fr S).bind fun b S => .ok (!b) S := id rfl
@[simp] theorem ap_and : eAnd f g fr S = (f fr S).bind fun d S => match d with | .bl b => if b then g fr S else .ok (.bl false) S | _ => .bad := id rfl
@[simp] theorem ap_or : eOr f g fr S = (f fr S).bind fun d S => match d with | .bl b => if b then .ok (.bl true) S else g fr S | _ => .bad := id rfl
@[simp] theorem ap_not : eNot f fr S = (f fr S).bind fun d S => match d with | .bl b => .ok (.bl (!b)) S | _ => .bad := id rfl
@[simp] theorem ap_nil : aNil fr S = .ok [] S := id rfl
@[simp] theorem ap_cons : aCons f a fr S = (f fr S).bind fun x S => (a fr S).bind fun xs S => .ok (x :: xs) S := id rfl
@[simp] theorem ap_tup : eTup a fr S = (a fr S).bind fun xs S => if xs.length ≤ sz then .ok (.tup xs) S else .bad := id rfl
@[simp] theorem ap_lst : eLst a fr S = (a fr S).bind fun xs S => if xs.length ≤ sz then .ok (.lst xs) S else .bad := id rfl
@[simp] theorem ap_newl : eNewL a fr S = (a fr S).bind fun xs S => if xs.length ≤ sz then .ok (.ref S.length) (S ++ [.lst xs]) else .bad := id rfl
@[simp] theorem ap_call (F : List D → Sto → Res D) : eCall F a fr S = (a fr S).bind F := id rfl
@[simp] theorem ap_chain (o1 o2 : D → D → Sto → Res D) : eChain o1 o2 f g h fr S = (f fr S).bind fun x S => (g fr S).bind fun y S => (o1 x y S).bind fun z S => match z with
  | .bl b => if b then (h fr S).bind fun w S => o2 y w S else .ok (.bl false) S
  | _ => .bad := id rfl
@[simp] theorem ap_step (c : Int) : eStep c f fr S = (f fr S).bind fun d S => match d with | .tup xs => .ok (.tup (stepL c xs)) S | _ => .bad := id rfl
@[simp] theorem ap_slc (lo hi : MO) : eSlc f lo hi fr S = (f fr S).bind fun d S => (lo fr S).bind fun a S => (hi fr S).bind fun b S => slcD d a b S := id rfl
@[simp] theorem ap_on : oNone fr S = .ok none S := id rfl
@[simp] theorem ap_os : oSome f fr S = (f fr S).bind fun d S => match d with | .int i => .ok (some i) S | _ => .bad := id rfl
@[simp] theorem ap_add (i j : Int) : addD (.int i) (.int j) S = .ok (.int (i + j)) S := id rfl
@[simp] theorem ap_sub (i j : Int) : subD (.int i) (.int j) S = .ok (.int (i - j)) S := id rfl
@[simp] theorem ap_lt (i j : Int) : ltD (.int i) (.int j) S = .ok (.bl (decide (i < j))) S := id rfl
@[simp] theorem ap_le (i j : Int) : leD (.int i) (.int j) S = .ok (.bl (decide (i ≤ j))) S := id rfl
@[simp] theorem ap_gt (i j : Int) : gtD (.int i) (.int j) S = .ok (.bl (decide (j < i))) S := id rfl
@[simp] theorem ap_ge (i j : Int) : geD (.int i) (.int j) S = .ok (.bl (decide (j ≤ i))) S := id rfl
@[simp] theorem ap_tupleT (xs : List D) : tupleD [.tup xs] S = .ok (.tup xs) S := id rfl
@[simp] theorem ap_tupleL (xs : List D) : tupleD [.lst xs] S = .ok (.tup xs) S := id rfl
@[simp] theorem ap_eqi (i j : Int) : eqD false (.int i) (.int j) S = .ok (.bl (decide (i = j))) S := eqD_int S i j
@[simp] theorem ap_nei (i j : Int) : eqD true (.int i) (.int j) S = .ok (.bl (!decide (i = j))) S := neD_int S i j
@[simp] theorem ap_slct (xs : List D) (lo hi : Option Int) : slcD (.tup xs) lo hi S = .ok (.tup (cutD xs lo hi)) S := id rfl
end
/-! ### statements, one at a time -/
theorem sq_nx {f g : MS} {fr fr1 : Fr} {S S1 : Sto} (h : f fr S = .nx fr1 S1) : sSeq f g fr S = g fr1 S1 := by simp only [sSeq, h]
theorem sq_ret {f g : MS} {fr : Fr} {S S1 : Sto} {d : D} (h : f fr S = .ret d S1) : sSeq f g fr S = .ret d S1 := by simp only [sSeq, h]
theorem sq_exc {f g : MS} {fr : Fr} {S S1 : Sto} {c : Str} (h : f fr S = .exc c S1) : sSeq f g fr S = .exc c S1 := by simp only [sSeq, h]
theorem sq_set {i : Nat} {e : ME} {g : MS} {fr : Fr} {S S1 : Sto} {d : D} (h : e fr S = .ok d S1) : sSeq (sSet i e) g fr S = g (fr.set i (some d)) S1 := by simp only [sSeq, sSet, h, Res.then_ok]
theorem sq_setx {i : Nat} {e : ME} {g : MS} {fr : Fr} {S S1 : Sto} {c : Str} (h : e fr S = .exc c S1) : sSeq (sSet i e) g fr S = .exc c S1 := by simp only [sSeq, sSet, h, Res.then_exc]
theorem sq_ex {e : ME} {g : MS} {fr : Fr} {S S1 : Sto} {d : D} (h : e fr S = .ok d S1) : sSeq (sExpr e) g fr S = g fr S1 := by simp only [sSeq, sExpr, h, Res.then_ok]
theorem sq_exx {e : ME} {g : MS} {fr : Fr} {S S1 : Sto} {c : Str} (h : e fr S = .exc c S1) : sSeq (sExpr e) g fr S = .exc c S1 := by simp only [sSeq, sExpr, h, Res.then_exc]
theorem sq_t {c : MT} {f1 f2 g : MS} {fr : Fr} {S S1 : Sto} (h : c fr S = .ok true S1) : sSeq (sIf c f1 f2) g fr S = sSeq f1 g fr S1 := by simp only [sSeq, sIf, h, Res.then_ok, if_true]
theorem sq_f {c : MT} {f1 g : MS} {fr : Fr} {S S1 : Sto} (h : c fr S = .ok false S1) : sSeq (sIf c f1 sNil) g fr S = g fr S1 := by simp [sSeq, sIf, h, sNil]
theorem sq_f' {c : MT} {f1 f2 g : MS} {fr : Fr} {S S1 : Sto} (h : c fr S = .ok false S1) : sSeq (sIf c f1 f2) g fr S = sSeq f2 g fr S1 := by simp [sSeq, sIf, h]
theorem s_ret {e : ME} {fr : Fr} {S S1 : Sto} {d : D} (h : e fr S = .ok d S1) : sRet e fr S = .ret d S1 := by simp only [sRet, h, Res.then_ok]
theorem s_retx {e : ME} {fr : Fr} {S S1 : Sto} {c : Str} (h : e fr S = .exc c S1) : sRet e fr S = .exc c S1 := by simp only [sRet, h, Res.then_exc]
theorem sq_r {e : ME} {g : MS} {fr : Fr} {S S1 : Sto} {d : D} (h : e fr S = .ok d S1) : sSeq (sRet e) g fr S = .ret d S1 := by simp only [sSeq, sRet, h, Res.then_ok]
theorem sq_rx {e : ME} {g : MS} {fr : Fr} {S S1 : Sto} {c : Str} (h : e fr S = .exc c S1) : sSeq (sRet e) g fr S = .exc c S1 := by simp only [sSeq, sRet, h, Res.then_exc]
@[simp] theorem body_ret (d : D) (S : Sto) : bodyRes (.ret d S) = .ok d S := id rfl
@[simp] theorem body_nx (fr : Fr) (S : Sto) : bodyRes (.nx fr S) = .ok .non S := id rfl
@[simp] theorem body_exc (c : Str) (S : Sto) : bodyRes (.exc c S) = .exc c S := id rfl
theorem fnS_eq {n N : Nat} {b : MS} {ds : List D} {S : Sto} (h : ds.length = n) : fnS n N b ds S = bodyRes (b (startF N ds) S) := by simp [fnS, h]
/-! ### tables -/
def tb {α : Type} (n : Nat) (f : Nat → α) : List α := (List.range n).map f
@[simp] theorem tb_len {α : Type} (n : Nat) (f : Nat → α) : (tb n f).length = n := by simp [tb]
@[simp] theorem tb_get {α : Type} {n : Nat} {f : Nat → α} {k : Nat} (h : k < (tb n f).length) : (tb n f)[k] = f k := by simp [tb]
theorem tb_get? {α : Type} {n : Nat} {f : Nat → α} {k : Nat} : (tb n f)[k]? = if k < n then some (f k) else none := by
  by_cases h : k < n
  · rw [if_pos h, List.getElem?_eq_getElem (by simpa using h), tb_get]
  · rw [if_neg h, List.getElem?_eq_none (by simpa using h)]
theorem tb_ext {α : Type} {n : Nat} {f : Nat → α} {xs : List α} (hl : xs.length = n) (h : ∀ k (hk : k < xs.length), k < n → xs[k] = f k) : xs = tb n f := by
  apply List.ext_getElem
  · simpa using hl
  · intro i h1 h2
    rw [tb_get]
    exact h i h1 (by omega)
theorem tb_congr {α : Type} {n : Nat} {f g : Nat → α} (h : ∀ k, k < n → f k = g k) : tb n f = tb n g :=
  tb_ext (by simp) fun k hk hn => by rw [tb_get]; exact h k hn
@[simp] theorem tb_map {α β : Type} {n : Nat} {f : Nat → α} (φ : α → β) : (tb n f).map φ = tb n (fun k => φ (f k)) := by simp [tb, Function.comp]
theorem tb_rev {α : Type} {n : Nat} {f : Nat → α} : (tb n f).reverse = tb n (fun k => f (n - 1 - k)) := by
  refine tb_ext (by simp) fun k hk hn => ?_
  rw [List.getElem_reverse, tb_get]
  simp
theorem tb_step {α : Type} {n : Nat} {f : Nat → α} : stepL 2 (tb n f) = tb ((n + 1) / 2) (fun k => f (2 * k)) := by
  have e : stepL 2 (tb n f) = evens (tb n f) := by simp [stepL]
  rw [e]
  refine tb_ext (by rw [evens_len]; simp) fun k hk hn => ?_
  have := evens_get (tb n f) k
  rw [List.getElem?_eq_getElem hk, tb_get?, if_pos (by omega)] at this
  exact Option.some.inj this
theorem tb_cut {n a b : Nat} {f : Nat → D} (h : a + b ≤ n) : cutD (tb n f) (some (a : Int)) (some ((a + b : Nat) : Int)) = tb b (fun k => f (a + k)) := by
  unfold cutD
  rw [HT.sIx_nat, HT.sIx_nat, tb_len, Nat.min_eq_left (by omega), Nat.min_eq_left (by omega)]
  refine tb_ext (by simp; omega) fun k hk hn => ?_
  simp
theorem tb_of {α : Type} (z : α) (xs : List α) : xs = tb xs.length (fun k => xs.getD k z) := by
  refine tb_ext rfl fun k hk hn => ?_
  simp [List.getD, hn]
theorem tb_filter_all {α : Type} {n : Nat} {f : Nat → α} (p : α → Bool) : (tb n f).all p = (List.range n).all fun k => p (f k) := by simp [tb, List.all_map, Function.comp_def]
theorem comp_tb {vs : List Nat} {i : Nat} {f e : ME} {fr : Fr} {S S1 : Sto} {n : Nat} {g : Nat → D} (hf : f fr S = .ok (.tup (tb n g)) S1 ∨ f fr S = .ok (.lst (tb n g)) S1) (hl : n ≤ sz) (φ : Nat → D) (h : ∀ k, k < n → e ((wipeF fr vs).set i (some (g k))) S1 = .ok (φ k) S1) :
    eComp vs (iSeq f) (gN i) tTrue e fr S = .ok (.lst (tb n φ)) S1 := by
  have hi : iSeq f fr S = .ok ⟨tb n g, none⟩ S1 := by rcases hf with hf | hf <;> simp [iSeq, hf, seqIts]
  have := eComp_st (vs := vs) (g := gN i) (c := tTrue) (e := e) hi φ (fun _ => S1) rfl (by simpa using hl) (fun j d hj => ⟨trivial, _, rfl, rfl, ?_⟩) trivial
  · rw [this]; simp [tb]
  · simp only [tb_get?] at hj
    split at hj
    · rename_i hk
      cases hj
      exact h j hk
    · cases hj
theorem comp_rt {vs : List Nat} {i : Nat} {f : MA} {e : ME} {fr : Fr} {S S1 : Sto} {n : Nat} (hf : f fr S = .ok [.int (n : Int)] S1) (hl : n ≤ 1000000) (φ : Nat → D) (h : ∀ k : Nat, k < n → e ((wipeF fr vs).set i (some (.int k))) S1 = .ok (φ k) S1) :
    eComp vs (iRng1' f) (gN i) tTrue e fr S = .ok (.lst (tb n φ)) S1 := by
  have := comp_rng (vs := vs) (i := i) (e := e) hf (by omega) (by omega) φ (fun k hk => h k (by omega))
  rw [this]; simp [tb]
/-! ### grids: (width, height), cells by (down, across) -/
def gridD (s : Nat × Nat) (f : Nat × Nat → D) : D := .tup (tb s.2 fun j => .tup (tb s.1 fun k => f (j, k)))
theorem gridD_congr {s : Nat × Nat} {f g : Nat × Nat → D} (h : ∀ j k, j < s.2 → k < s.1 → f (j, k) = g (j, k)) : gridD s f = gridD s g := by
  unfold gridD
  congr 1
  exact tb_congr fun j hj => by congr 1; exact tb_congr fun k hk => h j k hj hk
theorem g_len (S : Sto) (s : Nat × Nat) (f : Nat × Nat → D) : lenD [gridD s f] S = .ok (.int s.2) S := by simp [gridD]
theorem g_row {S : Sto} {s : Nat × Nat} {f : Nat × Nat → D} {i : Int} {j : Nat} (h : i = j) (hj : j < s.2) : ixD (gridD s f) (.int i) S = .ok (.tup (tb s.1 fun k => f (j, k))) S := by
  unfold gridD
  rw [ix_tup h (by simpa using hj), tb_get]
theorem t_cell {S : Sto} {n : Nat} {f : Nat → D} {i : Int} {j : Nat} (h : i = j) (hj : j < n) : ixD (.tup (tb n f)) (.int i) S = .ok (f j) S := by
  rw [ix_tup h (by simpa using hj), tb_get]
theorem G_turned {s : Nat × Nat} {f : Nat × Nat → D} (h0 : 0 < s.2) (h1 : s.1 ≤ 1000) (h2 : s.2 ≤ 1000) (S : Sto) : F_turned_rows [gridD s f] S = .ok (gridD (s.2, s.1) fun p => f (s.2 - 1 - p.2, p.1)) S := by
  have e : F_turned_rows [gridD s f] S = bodyRes (b_turned_rows [some (gridD s f), none, none] S) := rfl
  unfold b_turned_rows at e
  rw [e, sRet, eCall, aCons, comp_rt (S1 := S) (n := s.1) (φ := fun k => .tup (tb s.2 fun j => f (s.2 - 1 - j, k)))]
  · simp [aNil, tupleD, bodyRes, gridD]
  · simp [aCons, aNil, eCall, e2, eVar, eC, g_row (S := S) (s := s) (f := f) (i := 0) (j := 0) rfl h0]
  · omega
  · intro k hk
    rw [eCall, aCons, comp_tb (S1 := S) (n := s.2) (g := fun j => .tup (tb s.1 fun k => f (s.2 - 1 - j, k))) (φ := fun j => f (s.2 - 1 - j, k))]
    · simp [aNil, tupleD]
    · left
      simp [wipeF, eStep, eVar, gridD, stepL, tb_rev]
    · unfold sz; omega
    · intro j hj
      simp [wipeF, e2, eVar, t_cell (S := S) (n := s.1) (f := fun k => f (s.2 - 1 - j, k)) (i := (k : Int)) rfl hk]
theorem G_mirrored {s : Nat × Nat} {f : Nat × Nat → D} (h2 : s.2 ≤ 1000) (S : Sto) : F_mirrored_rows [gridD s f] S = .ok (gridD s fun p => f (p.1, s.1 - 1 - p.2)) S := by
  have e : F_mirrored_rows [gridD s f] S = bodyRes (b_mirrored_rows [some (gridD s f), none] S) := rfl
  unfold b_mirrored_rows at e
  rw [e, sRet, eCall, aCons, comp_tb (S1 := S) (n := s.2) (g := fun j => .tup (tb s.1 fun k => f (j, k))) (φ := fun j => .tup (tb s.1 fun k => f (j, s.1 - 1 - k)))]
  · simp [aNil, tupleD, bodyRes, gridD]
  · left; simp [eVar, gridD]
  · unfold sz; omega
  · intro j hj
    simp [wipeF, eStep, eVar, stepL, tb_rev]
/-! ### deeds -/
inductive Deed where
  | turn | mirror | invert | halve | light (l : Int) | cut (l t w h : Nat)
deriving DecidableEq
def Deed.nm : Deed → Str
  | .turn => "turn" | .mirror => "mirror" | .invert => "invert" | .halve => "halve" | .light _ => "light" | .cut _ _ _ _ => "cut"
def Deed.d : Deed → D
  | .light l => .tup [.str "light", .int l]
  | .cut l t w h => .tup [.str "cut", .int l, .int t, .int w, .int h]
  | .turn => .tup [.str "turn"] | .mirror => .tup [.str "mirror"] | .invert => .tup [.str "invert"] | .halve => .tup [.str "halve"]
def mvS : Deed → Nat × Nat → Option (Nat × Nat)
  | .turn, s => some (s.2, s.1)
  | .halve, s => some ((s.1 + 1) / 2, (s.2 + 1) / 2)
  | .cut l t a b, s => if l + a ≤ s.1 ∧ t + b ≤ s.2 then some (a, b) else none
  | _, s => some s
def mvP : Deed → Nat × Nat → Nat × Nat → Nat × Nat
  | .turn, s, p => (s.2 - 1 - p.2, p.1)
  | .mirror, s, p => (p.1, s.1 - 1 - p.2)
  | .halve, _, p => (2 * p.1, 2 * p.2)
  | .cut l t _ _, _, p => (t + p.1, l + p.2)
  | _, _, p => p
def lgt : Deed → Int → Int
  | .invert, x => 9 - x
  | .light l, x => max 0 (min 9 (x + l))
  | _, x => x
theorem ok_turn : PyData.strOk "turn" = true := by decide +kernel
theorem ok_mirror : PyData.strOk "mirror" = true := by decide +kernel
theorem ok_invert : PyData.strOk "invert" = true := by decide +kernel
theorem ok_halve : PyData.strOk "halve" = true := by decide +kernel
theorem ok_light : PyData.strOk "light" = true := by decide +kernel
theorem ok_cut : PyData.strOk "cut" = true := by decide +kernel
theorem eqD_str {S : Sto} {x y : Str} {b : Bool} (hx : PyData.strOk x = true) (hy : PyData.strOk y = true) (h : (x == y) = b) : eqD false (.str x) (.str y) S = .ok (.bl b) S := by
  simp only [eqD, dP, toP, hx, hy, PyData.eqv, if_true, if_neg Bool.false_ne_true, h]
theorem neD_str {S : Sto} {x y : Str} {b : Bool} (hx : PyData.strOk x = true) (hy : PyData.strOk y = true) (h : (x == y) = b) : eqD true (.str x) (.str y) S = .ok (.bl (!b)) S := by
  simp only [eqD, dP, toP, hx, hy, PyData.eqv, if_true, h]
def Deed.isTurn : Deed → Bool | .turn => true | _ => false
def Deed.isMirror : Deed → Bool | .mirror => true | _ => false
def Deed.isInvert : Deed → Bool | .invert => true | _ => false
def Deed.isHalve : Deed → Bool | .halve => true | _ => false
def Deed.isLight : Deed → Bool | .light _ => true | _ => false
def Deed.isCut : Deed → Bool | .cut _ _ _ _ => true | _ => false
theorem nm_turn (d : Deed) : ((d.nm : Str) == ("turn" : Str)) = d.isTurn := by cases d <;> (simp only [Deed.nm, Deed.isTurn]; decide +kernel)
theorem nm_mirror (d : Deed) : ((d.nm : Str) == ("mirror" : Str)) = d.isMirror := by cases d <;> (simp only [Deed.nm, Deed.isMirror]; decide +kernel)
theorem nm_invert (d : Deed) : ((d.nm : Str) == ("invert" : Str)) = d.isInvert := by cases d <;> (simp only [Deed.nm, Deed.isInvert]; decide +kernel)
theorem nm_halve (d : Deed) : ((d.nm : Str) == ("halve" : Str)) = d.isHalve := by cases d <;> (simp only [Deed.nm, Deed.isHalve]; decide +kernel)
theorem nm_light (d : Deed) : ((d.nm : Str) == ("light" : Str)) = d.isLight := by cases d <;> (simp only [Deed.nm, Deed.isLight]; decide +kernel)
theorem nm_cut (d : Deed) : ((d.nm : Str) == ("cut" : Str)) = d.isCut := by cases d <;> (simp only [Deed.nm, Deed.isCut]; decide +kernel)
theorem Deed.ok (d : Deed) : PyData.strOk d.nm = true := by
  cases d
  · exact ok_turn
  · exact ok_mirror
  · exact ok_invert
  · exact ok_halve
  · exact ok_light
  · exact ok_cut
theorem d_ix0 (d : Deed) (S : Sto) : ixD d.d (.int 0) S = .ok (.str d.nm) S := by cases d <;> rfl
theorem G_moved {s : Nat × Nat} {f : Nat × Nat → D} (d : Deed) (h0 : 0 < s.2) (h1 : s.1 ≤ 1000) (h2 : s.2 ≤ 1000) (S : Sto) :
    F_moved [gridD s f, d.d] S = (match mvS d s with | none => .exc "NoCut" S | some s' => .ok (gridD s' fun p => f (mvP d s p)) S) := by
  have e : F_moved [gridD s f, d.d] S = bodyRes (b_moved [some (gridD s f), some d.d, none, none, none, none, none] S) := rfl
  rw [e]
  unfold b_moved
  have x0 := d_ix0 d S
  have e1 := eqD_str (S := S) d.ok ok_turn (nm_turn d)
  have e2' := eqD_str (S := S) d.ok ok_mirror (nm_mirror d)
  have e3 := eqD_str (S := S) d.ok ok_halve (nm_halve d)
  have e4 := eqD_str (S := S) d.ok ok_cut (nm_cut d)
  cases d with
  | turn =>
    have := G_turned (f := f) h0 h1 h2 S
    simp [Deed.nm, Deed.d, Deed.isTurn, Deed.isMirror, Deed.isHalve, Deed.isCut] at e1 x0
    simp only [Deed.d]
    walk_at "ev"
    simp [x0, e1, this, mvS, mvP]
  | mirror =>
    have := G_mirrored (f := f) h2 S
    simp [Deed.nm, Deed.d, Deed.isTurn, Deed.isMirror, Deed.isHalve, Deed.isCut] at e1 e2' x0
    simp only [Deed.d]
    walk_at "ev"
    simp [x0, e1, e2', this, mvS, mvP]
  | invert =>
    simp [Deed.nm, Deed.d, Deed.isTurn, Deed.isMirror, Deed.isHalve, Deed.isCut] at e1 e2' e3 e4 x0
    simp only [Deed.d]
    walk_at "ev"
    simp [x0, e1, e2', e3, e4, mvS, mvP]
  | light l =>
    simp [Deed.nm, Deed.d, Deed.isTurn, Deed.isMirror, Deed.isHalve, Deed.isCut] at e1 e2' e3 e4 x0
    simp only [Deed.d]
    walk_at "ev"
    simp [x0, e1, e2', e3, e4, mvS, mvP]
  | halve =>
    simp [Deed.nm, Deed.d, Deed.isTurn, Deed.isMirror, Deed.isHalve, Deed.isCut] at e1 e2' e3 x0
    simp only [Deed.d]
    walk_at "ev"
    simp [x0, e1, e2', e3, mvS, mvP]
    rw [comp_tb (S1 := S) (n := (s.2 + 1) / 2) (g := fun j => .tup (tb s.1 fun k => f (2 * j, k))) (φ := fun j => .tup (tb ((s.1 + 1) / 2) fun k => f (2 * j, 2 * k)))]
    · simp [tupleD, gridD]
    · left; simp [eStep, eVar, gridD, tb_step]
    · unfold sz; omega
    · intro j hj
      simp [wipeF, eStep, eVar, tb_step]
  | cut l t a b =>
    simp [Deed.nm, Deed.d, Deed.isTurn, Deed.isMirror, Deed.isHalve, Deed.isCut] at e1 e2' e3 e4 x0
    have q : cutD [D.str "cut", .int l, .int t, .int a, .int b] (some (1 : Int)) none = [.int l, .int t, .int a, .int b] := by
      unfold cutD
      have : HT.sIx 5 0 (some (1 : Int)) = 1 := HT.sIx_nat 5 0 1
      simp [this, HT.sIx_none]
    have r0 := g_row (S := S) (s := s) (f := f) (i := 0) (j := 0) rfl h0
    have rl := g_len S s f
    simp only [Deed.d]
    walk_at "ev"
    simp [x0, e1, e2', e3, e4, Deed.d, slcD, q, r0, rl, mvS, mvP]
    by_cases c1 : l + a ≤ s.1
    · have c1' : ¬ (s.1 : Int) < (l : Int) + (a : Int) := by omega
      by_cases c2 : t + b ≤ s.2
      · have c2' : ¬ (s.2 : Int) < (t : Int) + (b : Int) := by omega
        simp [c1, c1', c2, c2', cmpI, rl]
        rw [comp_tb (S1 := S) (n := b) (g := fun j => .tup (tb s.1 fun k => f (t + j, k))) (φ := fun j => .tup (tb a fun k => f (t + j, l + k)))]
        · simp [tupleD, gridD]
        · left
          have := tb_cut (f := fun j => D.tup (tb s.1 fun k => f (j, k))) c2
          simp at this
          simp [eVar, gridD, slcD, this]
        · unfold sz; omega
        · intro j hj
          have := tb_cut (f := fun k => f (t + j, k)) c1
          simp at this
          simp [wipeF, eVar, slcD, this]
      · have c2' : (s.2 : Int) < (t : Int) + (b : Int) := by omega
        simp [c1, c1', c2, c2', cmpI, rl]
    · have c1' : (s.1 : Int) < (l : Int) + (a : Int) := by omega
      simp [c1, c1', cmpI]
end Py
set_option maxRecDepth 100000
set_option maxHeartbeats 1000000
namespace Py
open PySem PySem.Spec PyProof.Rows L2
/-! ### is_deed, are_deeds -/
def okDeed : Deed → Bool
  | .light l => decide (-9 ≤ l) && decide (l ≤ 9)
  | .cut l t w h => decide (l ≤ 7) && decide (t ≤ 7) && decide (1 ≤ w) && decide (w ≤ 8) && decide (1 ≤ h) && decide (h ≤ 8)
  | _ => true
abbrev deedsD (ds : List Deed) : D := .tup (ds.map Deed.d)
theorem ty_int {S : Sto} {i : Int} : Ty S (.int i) := ⟨_, rfl⟩
theorem ty_tup {S : Sto} {i : List D} : Ty S (.tup i) := ⟨_, rfl⟩
theorem ty_str {S : Sto} {i : Str} : Ty S (.str i) := ⟨_, rfl⟩
theorem ty_non {S : Sto} : Ty S .non := ⟨_, rfl⟩
theorem ty_bl {S : Sto} {b : Bool} : Ty S (.bl b) := ⟨_, rfl⟩
theorem ty_lst {S : Sto} {i : List D} : Ty S (.lst i) := ⟨_, rfl⟩
theorem dP_plain (S : Sto) : dP S g_PLAIN = some (.tuple [.tuple [.str "turn"], .tuple [.str "mirror"], .tuple [.str "invert"], .tuple [.str "halve"]]) := by
  simp [g_PLAIN, dP, toP, toPs, ok_turn, ok_mirror, ok_invert, ok_halve]
theorem dP_str1 (S : Sto) {x : Str} (h : PyData.strOk x = true) : dP S (.tup [.str x]) = some (.tuple [.str x]) := by
  simp [dP, toP, toPs, h]
theorem in_plain {S : Sto} {x : Str} (h : PyData.strOk x = true) : inD false (.tup [.str x]) g_PLAIN S = .ok (.bl ([("turn" : Str), "mirror", "invert", "halve"].any (· == x))) S := by
  simp only [inD, dP_plain, dP_str1 S h]
  simp [PyData.eqv, PyData.eqvAll]
theorem d_isT (d : Deed) (S : Sto) : isiD [d.d, .ty "tuple"] S = .ok (.bl true) S := by
  have h : Ty S d.d := by cases d <;> exact ty_tup
  rw [isi_tup h]
  cases d <;> rfl
theorem s_isS (x : Str) (S : Sto) : isiD [.str x, .ty "str"] S = .ok (.bl true) S := by rw [isi_str ty_str]; rfl
theorem all2 {S : Sto} {a b : Bool} : allD [.lst [.bl a, .bl b]] S = .ok (.bl (a && b)) S := by simp [allD, boolsD, blsOf]
theorem F_deed (d : Deed) (S : Sto) : F_is_deed [d.d] S = .ok (.bl (okDeed d)) S := by
  have e : F_is_deed [d.d] S = bodyRes (b_is_deed [some d.d, none] S) := rfl
  rw [e]
  unfold b_is_deed
  have x0 := d_ix0 d S
  have h1 := d_isT d S
  have h2 := s_isS d.nm S
  have e1 := eqD_str (S := S) d.ok ok_light (nm_light d)
  have e2' := neD_str (S := S) d.ok ok_cut (nm_cut d)
  have hl : ∃ n : Nat, lenD [d.d] S = .ok (.int ((n + 1 : Nat) : Int)) S := by cases d <;> exact ⟨_, rfl⟩
  obtain ⟨n, hl⟩ := hl
  have n0 : decide (((n + 1 : Nat) : Int) = 0) = false := by simp; omega
  rw [sq_f (S1 := S) (by simp [h1, hl, n0, x0, h2]; omega)]
  cases d with
  | light l =>
    have hw := F_whole (S := S) (x := .int l) (lo := -9) (hi := 9) ty_int
    have i1 : ixD (.tup [.str "light", .int l]) (.int 1) S = .ok (.int l) S := ix_tup (j := 1) rfl (by simp)
    rw [sq_t (S1 := S) (by simp [x0, e1, Deed.isLight]), sq_r (d := .bl (okDeed (.light l))) (S1 := S) (by simp [Deed.d, i1, hw, isW, okDeed])]
    rfl
  | cut l t w h =>
    have q1 : cutD [D.str "cut", .int l, .int t, .int w, .int h] (some (1 : Int)) (some 3) = [.int l, .int t] := by
      unfold cutD
      have a : HT.sIx 5 0 (some (1 : Int)) = 1 := HT.sIx_nat 5 0 1
      have b : HT.sIx 5 5 (some (3 : Int)) = 3 := HT.sIx_nat 5 5 3
      simp [a, b]
    have q2 : cutD [D.str "cut", .int l, .int t, .int w, .int h] (some (3 : Int)) none = [.int w, .int h] := by
      unfold cutD
      have a : HT.sIx 5 0 (some (3 : Int)) = 3 := HT.sIx_nat 5 0 3
      simp [a, HT.sIx_none]
    rw [sq_f (S1 := S) (by simp [x0, e1, Deed.isLight]), sq_f (S1 := S) (by simp [x0, e2', Deed.isCut])]
    have c1 : eComp [1] (iSeq (eSlc (eVar 0) (oSome (eC (.int 1))) (oSome (eC (.int 3))))) (gN 1) tTrue (eCall F_is_whole (aCons (eVar 1) (aCons (eC (.int 0)) (aCons (e2 subD (eC (.int 8)) (eC (.int 1))) aNil)))) [some (Deed.cut l t w h).d, none] S = .ok (.lst [.bl (isW 0 7 (.int l)), .bl (isW 0 7 (.int t))]) S := by
      rw [comp_seq (S1 := S) (ds := [.int l, .int t]) (φ := fun d => .bl (isW 0 7 d))]
      · rfl
      · left; simp [Deed.d, q1]
      · simp; unfold sz; omega
      · intro d hd
        have hT : Ty S d := by simp at hd; rcases hd with rfl | rfl <;> exact ty_int
        simp [wipeF, F_whole (S := S) (lo := 0) (hi := 7) hT]
    have c2 : eComp [1] (iSeq (eSlc (eVar 0) (oSome (eC (.int 3))) oNone)) (gN 1) tTrue (eCall F_is_whole (aCons (eVar 1) (aCons (eC (.int 1)) (aCons (eC (.int 8)) aNil)))) [some (Deed.cut l t w h).d, none] S = .ok (.lst [.bl (isW 1 8 (.int w)), .bl (isW 1 8 (.int h))]) S := by
      rw [comp_seq (S1 := S) (ds := [.int w, .int h]) (φ := fun d => .bl (isW 1 8 d))]
      · rfl
      · left; simp [Deed.d, q2]
      · simp; unfold sz; omega
      · intro d hd
        have hT : Ty S d := by simp at hd; rcases hd with rfl | rfl <;> exact ty_int
        simp [wipeF, F_whole (S := S) (lo := 1) (hi := 8) hT]
    have l5 : lenD [(Deed.cut l t w h).d] S = .ok (.int 5) S := rfl
    cases b1 : (isW 0 7 (.int l) && isW 0 7 (.int t)) with
    | true =>
      rw [sq_f (S1 := S) (by simp [l5, c1, all2]; simpa using b1), s_ret (S1 := S) (d := .bl (isW 1 8 (.int w) && isW 1 8 (.int h))) (by simp only [ap_call, ap_cons, c2, Res.bind_ok, ap_nil, all2])]
      simp only [body_ret, okDeed]
      congr 2
      simp [isW] at b1 ⊢
      rw [Bool.eq_iff_iff]
      simp
      omega
    | false =>
      rw [sq_t (S1 := S) (by simp [l5, c1, all2]; cases hA : isW 0 7 (.int l) <;> simp_all), sq_r (S1 := S) (d := .bl false) rfl]
      simp only [body_ret, okDeed]
      congr 2
      simp [isW] at b1
      symm
      rw [Bool.eq_false_iff]
      simp
      omega
  | turn => rw [sq_f (S1 := S) (by simp [x0, e1, Deed.isLight]), sq_t (S1 := S) (by simp [x0, e2', Deed.isCut]), sq_r (S1 := S) (d := .bl true) (by simp [Deed.d, in_plain ok_turn])]; rfl
  | mirror => rw [sq_f (S1 := S) (by simp [x0, e1, Deed.isLight]), sq_t (S1 := S) (by simp [x0, e2', Deed.isCut]), sq_r (S1 := S) (d := .bl true) (by simp [Deed.d, in_plain ok_mirror])]; rfl
  | invert => rw [sq_f (S1 := S) (by simp [x0, e1, Deed.isLight]), sq_t (S1 := S) (by simp [x0, e2', Deed.isCut]), sq_r (S1 := S) (d := .bl true) (by simp [Deed.d, in_plain ok_invert])]; rfl
  | halve => rw [sq_f (S1 := S) (by simp [x0, e1, Deed.isLight]), sq_t (S1 := S) (by simp [x0, e2', Deed.isCut]), sq_r (S1 := S) (d := .bl true) (by simp [Deed.d, in_plain ok_halve])]; rfl
theorem F_deeds {ds : List Deed} (h : ds.all okDeed = true) (hl : ds.length ≤ 1000) (S : Sto) : F_are_deeds [deedsD ds] S = .ok (.bl (decide (ds.length ≤ 20))) S := by
  have e : F_are_deeds [deedsD ds] S = bodyRes (b_are_deeds [some (deedsD ds), none] S) := rfl
  rw [e]
  unfold b_are_deeds
  have h1 : isiD [deedsD ds, .ty "tuple"] S = .ok (.bl true) S := by rw [isi_tup ty_tup]; rfl
  have c : eComp [1] (iSeq (eVar 0)) (gN 1) tTrue (eCall F_is_deed (aCons (eVar 1) aNil)) [some (deedsD ds), none] S = .ok (.lst ((ds.map Deed.d).map fun _ => .bl true)) S := by
    rw [comp_seq (S1 := S) (ds := ds.map Deed.d) (φ := fun _ => .bl true)]
    · left; simp
    · simp; unfold sz; omega
    · intro d hd
      obtain ⟨d0, hd0, rfl⟩ := List.mem_map.1 hd
      have := F_deed d0 S
      rw [List.all_eq_true.1 h d0 hd0] at this
      simp [wipeF, this]
  have a := allD_map (S := S) (fun _ => true) (ds.map Deed.d)
  have a' : ((ds.map Deed.d).all fun _ => true) = true := by simp
  rw [a'] at a
  by_cases k : ds.length ≤ 20
  · have k' : (ds.length : Int) ≤ 20 := by omega
    rw [s_ret (S1 := S) (d := .bl true)]
    · simp [k]
    · simp [h1, k', c]
      simpa using a
  · have k' : ¬ (ds.length : Int) ≤ 20 := by omega
    rw [s_ret (S1 := S) (d := .bl false)]
    · simp [k]
    · simp [h1, k']
theorem F_ndeeds {ds : List Deed} (h : ds.all okDeed = true) (hl : ds.length ≤ 20) (S : Sto) : F_need_deeds [deedsD ds] S = .ok .non S := by
  have e : F_need_deeds [deedsD ds] S = bodyRes (b_need_deeds [some (deedsD ds)] S) := rfl
  rw [e]
  unfold b_need_deeds
  simp [sIf, F_deeds h (by omega), hl, sNil]
/-! ### light -/
theorem max0_eq {i j : Int} {S : Sto} : maxD [.int i, .int j] S = .ok (.int (max i j)) S := by
  simp only [maxD, extD, maxL]
  simp
  omega
theorem min0_eq {i j : Int} {S : Sto} : minD [.int i, .int j] S = .ok (.int (min i j)) S := by
  simp only [minD, extD, minL]
  simp
  omega
/-! ### cells are whole numbers -/
def gridI (s : Nat × Nat) (g : Nat × Nat → Int) : D := gridD s fun p => .int (g p)
theorem G_lit {n : Nat} {g : Nat → Int} (d : Deed) (hn : n ≤ 1000) (S : Sto) : F_lit [.tup (tb n fun k => .int (g k)), d.d] S = .ok (.tup (tb n fun k => .int (lgt d (g k)))) S := by
  have e : F_lit [.tup (tb n fun k => .int (g k)), d.d] S = bodyRes (b_lit [some (.tup (tb n fun k => .int (g k))), some d.d, none] S) := rfl
  rw [e]
  unfold b_lit
  have x0 := d_ix0 d S
  have e1 := eqD_str (S := S) d.ok ok_invert (nm_invert d)
  have e2' := eqD_str (S := S) d.ok ok_light (nm_light d)
  cases d with
  | invert =>
    rw [sq_t (S1 := S) (by simp [x0, e1, Deed.isInvert]), sq_r (S1 := S) (d := .tup (tb n fun k => .int (9 - g k)))]
    · rfl
    · rw [eCall, aCons, comp_tb (S1 := S) (n := n) (g := fun k => .int (g k)) (φ := fun k => .int (9 - g k))]
      · simp
      · left; simp
      · unfold sz; omega
      · intro k hk; simp [wipeF]
  | light l =>
    have i1 : ixD (Deed.light l).d (.int 1) S = .ok (.int l) S := ix_tup (ds := [.str "light", .int l]) (j := 1) rfl (by simp)
    rw [sq_f (S1 := S) (by simp [x0, e1, Deed.isInvert]), sq_t (S1 := S) (by simp [x0, e2', Deed.isLight]), sq_r (S1 := S) (d := .tup (tb n fun k => .int (max 0 (min 9 (g k + l)))))]
    · rfl
    · rw [eCall, aCons, comp_tb (S1 := S) (n := n) (g := fun k => .int (g k)) (φ := fun k => .int (max 0 (min 9 (g k + l))))]
      · simp
      · left; simp
      · unfold sz; omega
      · intro k hk; simp [wipeF, i1, max0_eq, min0_eq]
  | _ =>
    rw [sq_f (S1 := S) (by simp [x0, e1, Deed.isInvert]), sq_f (S1 := S) (by simp [x0, e2', Deed.isLight]), s_ret (S1 := S) (d := .tup (tb n fun k => .int (g k))) (by simp)]
    rfl
def szs : List Deed → Nat × Nat → Option (Nat × Nat)
  | [], s => some s
  | d :: ds, s => (mvS d s).bind (szs ds)
def pos : List Deed → Nat × Nat → Nat × Nat → Nat × Nat
  | [], _, p => p
  | d :: ds, s, p => mvP d s (pos ds ((mvS d s).getD s) p)
def lgs : List Deed → Int → Int
  | [], x => x
  | d :: ds, x => lgs ds (lgt d x)
def Sz (s : Nat × Nat) : Prop := 0 < s.1 ∧ 0 < s.2 ∧ s.1 ≤ 8 ∧ s.2 ≤ 8
theorem Sz.mv {s s' : Nat × Nat} {d : Deed} (h : Sz s) (hd : okDeed d = true) (e : mvS d s = some s') : Sz s' := by
  unfold Sz at h ⊢
  cases d with
  | turn => cases e; simp; omega
  | mirror => cases e; exact h
  | invert => cases e; exact h
  | light l => cases e; exact h
  | halve => cases e; simp; omega
  | cut l t w k =>
    simp only [mvS] at e
    split at e
    · cases e
      simp [okDeed] at hd ⊢
      omega
    · cases e
theorem Sz.mvs : ∀ {ds : List Deed} {s s' : Nat × Nat}, Sz s → ds.all okDeed = true → szs ds s = some s' → Sz s'
  | [], s, s', h, hd, e => by cases e; exact h
  | d :: ds, s, s', h, hd, e => by
    simp only [szs] at e
    simp only [List.all_cons, Bool.and_eq_true] at hd
    cases e1 : mvS d s with
    | none => rw [e1] at e; cases e
    | some s1 => rw [e1] at e; exact Sz.mvs (h.mv hd.1 e1) hd.2 e
noncomputable abbrev lp_behind : MS := sSeq (sSet 0 (eCall F_moved (aCons (eVar 0) (aCons (eVar 2) aNil))))
    (sSet 0 (eCall tupleD (aCons (eComp [3] (iSeq (eVar 0)) (gN 3) tTrue (eCall F_lit (aCons (eVar 3) (aCons (eVar 2) aNil)))) aNil)))
theorem loop_behind {it : Its} (hi : it.guard = none) {Z : D} (S : Sto) : ∀ (ds : List Deed) (s : Nat × Nat) (g : Nat × Nat → Int) (o2 o3 : Option D), Sz s → ds.all okDeed = true →
    ∃ a b, loopF it (gN 2) lp_behind (ds.map Deed.d) [some (gridI s g), some Z, o2, o3] S = (match szs ds s with | none => .exc "NoCut" S | some s' => .nx [some (gridI s' fun p => lgs ds (g (pos ds s p))), some Z, a, b] S)
  | [], s, g, o2, o3, hs, hd => ⟨o2, o3, by simp only [List.map_nil, loopF, szs, lgs, pos, if_pos (show okG it S by unfold okG; rw [hi]; trivial)]⟩
  | d :: ds, s, g, o2, o3, hs, hd => by
    simp only [List.all_cons, Bool.and_eq_true] at hd
    have hm := G_moved (f := fun p => .int (g p)) d hs.2.1 (by unfold Sz at hs; omega) (by unfold Sz at hs; omega) S
    have ho : okG it S := by unfold okG; rw [hi]; trivial
    simp only [List.map_cons, loopF, if_pos ho, gN]
    cases e1 : mvS d s with
    | none =>
      rw [e1] at hm
      refine ⟨o2, o3, ?_⟩
      rw [show lp_behind _ S = .exc "NoCut" S from sq_setx (by simp [gridI, hm])]
      simp [szs, e1]
    | some s1 =>
      rw [e1] at hm
      have hs1 := hs.mv hd.1 e1
      obtain ⟨a, b, ih⟩ := loop_behind hi (Z := Z) S ds s1 (fun p => lgt d (g (mvP d s p))) (some d.d) o3 hs1 hd.2
      refine ⟨a, b, ?_⟩
      have hb : lp_behind [some (gridI s g), some Z, some d.d, o3] S = .nx [some (gridI s1 fun p => lgt d (g (mvP d s p))), some Z, some d.d, o3] S := by
        unfold lp_behind
        rw [sq_set (S1 := S) (d := gridD s1 fun p => .int (g (mvP d s p))) (by simp [gridI, hm])]
        simp only [sSet, List.set_cons_zero]
        rw [eCall, aCons, comp_tb (S1 := S) (n := s1.2) (g := fun j => .tup (tb s1.1 fun k => .int (g (mvP d s (j, k))))) (φ := fun j => .tup (tb s1.1 fun k => .int (lgt d (g (mvP d s (j, k))))))]
        · simp [gridI, gridD]
        · left; simp [gridD]
        · unfold sz; unfold Sz at hs1; omega
        · intro j hj
          have := G_lit (n := s1.1) (g := fun k => g (mvP d s (j, k))) d (by unfold Sz at hs1; omega) S
          simp [wipeF, this]
      simp only [List.set_cons_succ, List.set_cons_zero, hb]
      rw [ih]
      simp only [szs, e1, Option.bind_some, lgs, pos, Option.getD_some]
theorem G_behind {ds : List Deed} {s : Nat × Nat} {g : Nat × Nat → Int} (hs : Sz s) (hd : ds.all okDeed = true) (S : Sto) : F_behind [gridI s g, deedsD ds] S = (match szs ds s with | none => .exc "NoCut" S | some s' => .ok (gridI s' fun p => lgs ds (g (pos ds s p))) S) := by
  have e : F_behind [gridI s g, deedsD ds] S = bodyRes (b_behind [some (gridI s g), some (deedsD ds), none, none] S) := rfl
  rw [e]
  unfold b_behind
  obtain ⟨a, b, h⟩ := loop_behind (it := ⟨ds.map Deed.d, none⟩) rfl (Z := deedsD ds) S ds s g none none hs hd
  have h' : sFor (iSeq (eVar 1)) (gN 2) lp_behind [some (gridI s g), some (deedsD ds), none, none] S = _ := h
  cases e1 : szs ds s with
  | none =>
    rw [e1] at h'
    rw [sq_exc h']
    rfl
  | some s1 =>
    rw [e1] at h'
    rw [sq_nx h', s_ret (S1 := S) (d := gridI s1 fun p => lgs ds (g (pos ds s p))) rfl]
    rfl
def Cells (s : Nat × Nat) (g : Nat × Nat → Int) : Prop := ∀ j k, j < s.2 → k < s.1 → 0 ≤ g (j, k) ∧ g (j, k) ≤ 9
theorem isPic_grid {s : Nat × Nat} {g : Nat × Nat → Int} (hs : Sz s) (hc : Cells s g) : isPic (gridI s g) = true := by
  unfold Sz at hs
  obtain ⟨w, h⟩ := s
  simp only at hs
  obtain ⟨h', rfl⟩ : ∃ h', h = h' + 1 := ⟨h - 1, by omega⟩
  have hd : (tb (h' + 1) fun j => D.tup (tb w fun k => D.int (g (j, k)))).headD .non = .tup (tb w fun k => D.int (g (0, k))) := by
    simp [tb, List.range_succ_eq_map]
  simp only [gridI, gridD, isPic, tb_len, hd]
  simp only [tb_filter_all, rowOk, lenOf, tb_len, cellsOk, isW]
  simp
  refine ⟨⟨by omega, fun _ => by omega⟩, fun j hj => fun k hk => ?_⟩
  exact hc j k hj hk
theorem ty3_grid {S : Sto} {s : Nat × Nat} {g : Nat × Nat → Int} : Ty3 S (gridI s g) := by
  refine ⟨ty_tup, fun rows e r hr => ?_⟩
  cases e
  obtain ⟨j, hj, rfl⟩ := List.mem_map.1 hr
  refine ⟨ty_tup, fun cs e c hc => ?_⟩
  cases e
  obtain ⟨k, hk, rfl⟩ := List.mem_map.1 hc
  exact ty_int
theorem F_npic {x : D} {S : Sto} (h : Ty3 S x) : F_need_picture [x] S = if isPic x then .ok .non S else .exc "NoPicture" S := by
  have e : F_need_picture [x] S = bodyRes (b_need_picture [some x] S) := rfl
  rw [e]
  unfold b_need_picture
  have := F_pic h
  cases e1 : isPic x <;> simp [sIf, this, e1, sNil, sRaise]
theorem G_done {ds : List Deed} {s : Nat × Nat} {g : Nat × Nat → Int} (hs : Sz s) (hc : Cells s g) (hd : ds.all okDeed = true) (hl : ds.length ≤ 20) (S : Sto) : F_done [gridI s g, deedsD ds] S = (match szs ds s with | none => .exc "NoCut" S | some s' => .ok (gridI s' fun p => lgs ds (g (pos ds s p))) S) := by
  have e : F_done [gridI s g, deedsD ds] S = bodyRes (b_done [some (gridI s g), some (deedsD ds)] S) := rfl
  rw [e]
  unfold b_done
  have h1 := F_npic (S := S) (ty3_grid (s := s) (g := g))
  rw [isPic_grid hs hc, if_pos rfl] at h1
  have h2 := F_ndeeds hd hl S
  have h3 := G_behind (g := g) hs hd S
  rw [sq_ex (S1 := S) (d := .non) (by simp [h1]), sq_ex (S1 := S) (d := .non) (by simp [h2])]
  cases e1 : szs ds s with
  | none => rw [e1] at h3; rw [s_retx (by simp; exact h3)]; rfl
  | some s1 => rw [e1] at h3; rw [s_ret (by simp; exact h3)]; rfl
end Py
set_option maxRecDepth 100000
set_option maxHeartbeats 1000000
namespace Py
open PySem PySem.Spec PyProof.Rows L2
theorem irngZ {f : MA} {fr : Fr} {S S1 : Sto} {z : Int} (hf : f fr S = .ok [.int z] S1) (h0 : 0 ≤ z) (hl : z ≤ 1000000) : iRng1' f fr S = .ok ⟨rngD 0 z.toNat, none⟩ S1 := by
  simp only [iRng1', hf, Res.bind_ok]
  rw [if_pos ⟨by omega, by omega⟩]
theorem castM {n : Nat} (h : n ≤ 1000000) : (n : Int) ≤ 1000000 := by omega
theorem irng {f : MA} {fr : Fr} {S S1 : Sto} {n : Nat} (hf : f fr S = .ok [.int (n : Int)] S1) (hl : n ≤ 1000000) : iRng1' f fr S = .ok ⟨rngD 0 n, none⟩ S1 := by
  have := irngZ hf (Int.natCast_nonneg n) (castM hl)
  rw [Int.toNat_natCast] at this
  exact this
@[simp] theorem two_sz : 2 ≤ sz := by unfold sz; omega
theorem comp_rst {vs : List Nat} {i : Nat} {f : MA} {e : ME} {fr : Fr} {S : Sto} {n : Nat} (φ : Nat → D) (σ : Nat → Sto) (hf : f fr S = .ok [.int (n : Int)] (σ 0)) (hl : n ≤ 1000000) (h : ∀ k : Nat, k < n → e ((wipeF fr vs).set i (some (.int k))) (σ k) = .ok (φ k) (σ (k + 1))) :
    eComp vs (iRng1' f) (gN i) tTrue e fr S = .ok (.lst (tb n φ)) (σ n) := by
  have hi : iRng1' f fr S = .ok ⟨rngD 0 n, none⟩ (σ 0) := irng hf hl
  have := eComp_st (vs := vs) (g := gN i) (c := tTrue) (e := e) hi φ σ rfl (by rw [rngD_len]; unfold sz; omega) (fun j d hj => ⟨trivial, _, rfl, rfl, ?_⟩) trivial
  · rw [this]; simp [rngD_len, tb]
  · have hjn : j < n := by have := (List.getElem?_eq_some_iff.1 hj).1; rw [rngD_len] at this; exact this
    rw [rngD_get hjn] at hj
    cases hj
    have := h j hjn
    simpa using this
/-! ### map_of, size -/
def ptD (p : Nat × Nat) : D := .tup [.int p.1, .int p.2]
noncomputable abbrev lp_map : MS := sSet 3 (eCall F_moved (aCons (eVar 3) (aCons (eVar 4) aNil)))
theorem loop_map {it : Its} (hi : it.guard = none) {x0 x1 x2 : Option D} (S : Sto) : ∀ (ds : List Deed) (s : Nat × Nat) (f : Nat × Nat → D) (o4 o5 o6 : Option D), Sz s → ds.all okDeed = true →
    ∃ a, loopF it (gN 4) lp_map (ds.map Deed.d) [x0, x1, x2, some (gridD s f), o4, o5, o6] S = (match szs ds s with | none => .exc "NoCut" S | some s' => .nx [x0, x1, x2, some (gridD s' fun p => f (pos ds s p)), a, o5, o6] S)
  | [], s, f, o4, o5, o6, hs, hd => ⟨o4, by simp only [List.map_nil, loopF, szs, pos, if_pos (show okG it S by unfold okG; rw [hi]; trivial)]⟩
  | d :: ds, s, f, o4, o5, o6, hs, hd => by
    simp only [List.all_cons, Bool.and_eq_true] at hd
    have hm := G_moved (f := f) d hs.2.1 (by unfold Sz at hs; omega) (by unfold Sz at hs; omega) S
    have ho : okG it S := by unfold okG; rw [hi]; trivial
    simp only [List.map_cons, loopF, if_pos ho, gN]
    cases e1 : mvS d s with
    | none =>
      rw [e1] at hm
      refine ⟨o4, ?_⟩
      simp [sSet, hm, szs, e1]
    | some s1 =>
      rw [e1] at hm
      obtain ⟨a, ih⟩ := loop_map hi (x0 := x0) (x1 := x1) (x2 := x2) S ds s1 (fun p => f (mvP d s p)) (some d.d) o5 o6 (hs.mv hd.1 e1) hd.2
      refine ⟨a, ?_⟩
      simp [sSet, hm, szs, e1, pos, ih]
theorem G_map_of {ds : List Deed} {s : Nat × Nat} (hs : Sz s) (hd : ds.all okDeed = true) (S : Sto) : F_map_of [.int s.1, .int s.2, deedsD ds] S = (match szs ds s with | none => .exc "NoCut" S | some s' => .ok (gridD s' fun p => ptD (pos ds s p)) S) := by
  have e : F_map_of [.int s.1, .int s.2, deedsD ds] S = bodyRes (b_map_of [some (.int s.1), some (.int s.2), some (deedsD ds), none, none, none, none] S) := rfl
  rw [e]
  unfold b_map_of
  have hc : eCall tupleD (aCons (eComp [5] (iRng1' (aCons (eVar 1) aNil)) (gN 5) tTrue (eCall tupleD (aCons (eComp [6] (iRng1' (aCons (eVar 0) aNil)) (gN 6) tTrue (eTup (aCons (eVar 5) (aCons (eVar 6) aNil)))) aNil))) aNil) [some (.int s.1), some (.int s.2), some (deedsD ds), none, none, none, none] S = .ok (gridD s ptD) S := by
    unfold Sz at hs
    rw [eCall, aCons, comp_rt (S1 := S) (n := s.2) (φ := fun j => .tup (tb s.1 fun k => ptD (j, k)))]
    · simp [gridD]
    · simp
    · omega
    · intro j hj
      rw [eCall, aCons, comp_rt (S1 := S) (n := s.1) (φ := fun k => ptD (j, k))]
      · simp
      · simp [wipeF]
      · omega
      · intro k hk
        simp [wipeF, ptD]
  rw [sq_set hc]
  obtain ⟨a, h⟩ := loop_map (it := ⟨ds.map Deed.d, none⟩) rfl (x0 := some (.int s.1)) (x1 := some (.int s.2)) (x2 := some (deedsD ds)) S ds s ptD none none none hs hd
  have h' : sFor (iSeq (eVar 2)) (gN 4) lp_map [some (.int s.1), some (.int s.2), some (deedsD ds), some (gridD s ptD), none, none, none] S = _ := h
  simp only [List.set_cons_succ, List.set_cons_zero]
  cases e1 : szs ds s with
  | none => rw [e1] at h'; rw [sq_exc h']; rfl
  | some s1 =>
    rw [e1] at h'
    rw [sq_nx h', s_ret (S1 := S) (d := gridD s1 fun p => ptD (pos ds s p)) rfl]
    rfl
theorem F_nsize {x y : D} {S : Sto} (hx : Ty S x) (hy : Ty S y) : F_need_size [x, y] S = if isW 1 8 x && isW 1 8 y then .ok .non S else .exc "NoSize" S := by
  have e : F_need_size [x, y] S = bodyRes (b_need_size [some x, some y] S) := rfl
  rw [e]
  unfold b_need_size
  have h1 := F_whole (lo := 1) (hi := 8) hx
  have h2 := F_whole (lo := 1) (hi := 8) hy
  cases e1 : isW 1 8 x <;> cases e2 : isW 1 8 y <;> simp [sIf, h1, h2, e1, e2, sNil, sRaise]
theorem G_size {ds : List Deed} {s : Nat × Nat} (hs : Sz s) (hd : ds.all okDeed = true) (hl : ds.length ≤ 20) (S : Sto) : F_size [.int s.1, .int s.2, deedsD ds] S = (match szs ds s with | none => .exc "NoCut" S | some s' => .ok (.tup [.int s'.1, .int s'.2]) S) := by
  have e : F_size [.int s.1, .int s.2, deedsD ds] S = bodyRes (b_size [some (.int s.1), some (.int s.2), some (deedsD ds), none] S) := rfl
  rw [e]
  unfold b_size
  have h1 := F_nsize (S := S) (x := .int s.1) (y := .int s.2) ty_int ty_int
  have w1 : isW 1 8 (.int s.1) = true := by unfold Sz at hs; simp [isW]; omega
  have w2 : isW 1 8 (.int s.2) = true := by unfold Sz at hs; simp [isW]; omega
  rw [w1, w2] at h1
  have h2 := F_ndeeds hd hl S
  have h3 := G_map_of hs hd S
  simp at h1
  rw [sq_ex (S1 := S) (d := .non) (by simp [h1]), sq_ex (S1 := S) (d := .non) (by simp [h2])]
  cases e1 : szs ds s with
  | none =>
    rw [e1] at h3
    rw [sq_setx (by simp; exact h3)]
    rfl
  | some s1 =>
    rw [e1] at h3
    have hs1 := hs.mvs hd e1
    have r0 := g_row (S := S) (s := s1) (f := fun p => ptD (pos ds s p)) (i := 0) (j := 0) rfl hs1.2.1
    rw [sq_set (by simp; exact h3), s_ret (S1 := S) (d := .tup [.int s1.1, .int s1.2]) (by simp [r0, g_len])]
    rfl
/-! ### leaving a def -/
theorem demL_same {f : D → Option D} : ∀ {ds : List D}, (∀ d ∈ ds, f d = some d) → demL f ds = some ds
  | [], h => rfl
  | d :: ds, h => by simp only [demL, h d (List.mem_cons_self ..), demL_same fun d' hd => h d' (List.mem_cons_of_mem _ hd)]
theorem lowerL_mem {k : Nat} : ∀ {ds : List D}, lowerL k ds = true → ∀ d ∈ ds, d.lower k = true
  | d :: ds, h, d', hd => by
    simp only [lowerL, Bool.and_eq_true] at h
    rcases List.mem_cons.1 hd with rfl | hd
    · exact h.1
    · exact lowerL_mem h.2 d' hd
theorem lowerL_of {k : Nat} : ∀ {ds : List D}, (∀ d ∈ ds, d.lower k = true) → lowerL k ds = true
  | [], h => rfl
  | d :: ds, h => by simp only [lowerL, h d (List.mem_cons_self ..), lowerL_of fun d' hd => h d' (List.mem_cons_of_mem _ hd), Bool.and_self]
theorem dem_lower {k : Nat} {S : Sto} : ∀ (f : Nat) (d : D), d.lower k = true → dem f k S d = some d
  | 0, d, h => by simp only [dem, h, if_true]
  | f + 1, d, h => by
    cases d with
    | tup ds =>
      simp only [D.lower] at h
      simp only [dem, demL_same fun d hd => dem_lower f d (lowerL_mem h d hd), Option.map_some]
    | lst ds =>
      simp only [D.lower] at h
      simp only [dem, demL_same fun d hd => dem_lower f d (lowerL_mem h d hd), Option.map_some]
    | ref n =>
      simp only [D.lower, decide_eq_true_eq] at h
      simp only [dem, h, if_true]
    | _ => simp only [dem, h, if_true]
theorem lower_deed (k : Nat) (d : Deed) : d.d.lower k = true := by cases d <;> simp [Deed.d, D.lower, lowerL]
theorem lower_deeds (k : Nat) (ds : List Deed) : (deedsD ds).lower k = true := by
  simp only [D.lower]
  exact lowerL_of fun d hd => by obtain ⟨d0, _, rfl⟩ := List.mem_map.1 hd; exact lower_deed k d0
theorem kept_Tn (n n' : Nat) (rest extra : Sto) : KeptS (Tn n rest) (Tn n' (rest ++ extra)) := by
  refine ⟨by simp, fun i o hi h => ?_⟩
  cases i with
  | zero =>
    right
    cases h
    simp only [O.lower]
    exact lowerL_of fun d hd => by rw [List.eq_of_mem_replicate hd]; rfl
  | succ i =>
    left
    simp at hi
    simp [List.getElem?_append_left hi] at h ⊢
    exact h
theorem take_Tn (n n' : Nat) (rest extra : Sto) : (Tn n' (rest ++ extra)).take (Tn n rest).length = Tn n' rest := by simp
theorem leave_Tn {n n' : Nat} {rest extra : Sto} {d : D} (h : d.lower (rest.length + 1) = true) : leaveR (Tn n rest) (.ok d (Tn n' (rest ++ extra))) = .ok d (Tn n' rest) := by
  have := dem_lower (S := Tn n' (rest ++ extra)) 8 d h
  simp only [leaveR, if_pos (kept_Tn n n' rest extra), take_Tn]
  rw [show (Tn n rest).length = rest.length + 1 by simp, this]
/-! ### the law's own draws -/
theorem F_drawN (ns : List Int) (n : Nat) {many : Nat} (h : 0 < many) (hn : n < 900000) (rest : Sto) : ∃ k : Nat, k < many ∧ F_law_draw [scr ns, .ref 0, .int many] (Tn n rest) = .ok (.int k) (Tn (n + 1) rest) := by
  have hr := mixV_range ns (n + 1) (many := (many : Int)) (by omega)
  refine ⟨(mixV ns (n + 1) many).toNat, by omega, ?_⟩
  rw [F_draw ns n (by omega) hn]
  congr 2
  omega
theorem G_picture (ns : List Int) (n most : Nat) (h0 : 0 < most) (h8 : most ≤ 8) (hn : n < 800000) (rest : Sto) : ∃ s g n', Sz s ∧ s.1 ≤ most ∧ s.2 ≤ most ∧ Cells s g ∧ n' ≤ n + 68 ∧ F_law_picture [scr ns, .ref 0, .int most] (Tn n rest) = .ok (gridI s g) (Tn n' rest) := by
  have e : F_law_picture [scr ns, .ref 0, .int most] (Tn n rest) = bodyRes (b_law_picture [some (scr ns), some (.ref 0), some (.int most), none, none, none, none, none] (Tn n rest)) := rfl
  obtain ⟨k1, hk1, d1⟩ := F_drawN ns n h0 (by omega) rest
  obtain ⟨k2, hk2, d2⟩ := F_drawN ns (n + 1) h0 (by omega) rest
  obtain ⟨j, hj, d3⟩ := F_pick ns (n + 2) (by omega) rest (ds := [.int (1 + (k1 : Int)), .int (1 + (k2 : Int))]) (by simp)
  obtain ⟨j', hj', d4⟩ := F_pick ns (n + 3) (by omega) rest (ds := [.int 2, .int 3, .int 10]) (by simp)
  obtain ⟨few, hf1, hf2, hf⟩ : ∃ few : Int, 0 < few ∧ few ≤ 10 ∧ [D.int 2, .int 3, .int 10][j'] = .int few := by
    simp at hj'
    rcases j' with _ | _ | _ | j'
    · exact ⟨2, by decide, by decide, rfl⟩
    · exact ⟨3, by decide, by decide, rfl⟩
    · exact ⟨10, by decide, by decide, rfl⟩
    · omega
  obtain ⟨hh, hh1, hh2, hhe⟩ : ∃ hh : Nat, 0 < hh ∧ hh ≤ most ∧ [D.int (1 + (k1 : Int)), .int (1 + (k2 : Int))][j] = .int hh := by
    simp at hj
    rcases j with _ | _ | j
    · exact ⟨1 + k1, by omega, by omega, by simp⟩
    · exact ⟨1 + k2, by omega, by omega, by simp⟩
    · omega
  rw [hf] at d4
  rw [hhe] at d3
  have hcell : ∀ (j k : Nat), 0 ≤ mixV ns (n + 4 + j * (1 + k1) + k + 1) few ∧ mixV ns (n + 4 + j * (1 + k1) + k + 1) few < few := fun j k => mixV_range ns _ hf1
  refine ⟨(1 + k1, hh), fun p => mixV ns (n + 4 + p.1 * (1 + k1) + p.2 + 1) few, n + 4 + hh * (1 + k1), ⟨by simp; omega, hh1, by simp; omega, by simp; omega⟩, by simp; omega, hh2, fun j k hj hk => ⟨(hcell j k).1, by have := (hcell j k).2; simp; omega⟩, ?_, ?_⟩
  · have : hh * (1 + k1) ≤ 8 * 8 := Nat.mul_le_mul (by omega) (by omega)
    omega
  · rw [e]
    unfold b_law_picture
    rw [sq_set (S1 := Tn (n + 1) rest) (d := .int (1 + (k1 : Int))) (by simp; simp [d1])]
    rw [sq_set (S1 := Tn (n + 3) rest) (d := .int hh) (by simp [d2]; exact d3)]
    rw [sq_set (S1 := Tn (n + 4) rest) (d := .int few) (by simp; exact d4)]
    have hb : hh * (1 + k1) ≤ 8 * 8 := Nat.mul_le_mul (by omega) (by omega)
    rw [s_ret (S1 := Tn (n + 4 + hh * (1 + k1)) rest) (d := gridI (1 + k1, hh) fun p => mixV ns (n + 4 + p.1 * (1 + k1) + p.2 + 1) few)]
    · rfl
    · rw [eCall, aCons, comp_rst (n := hh) (fun j => .tup (tb (1 + k1) fun k => .int (mixV ns (n + 4 + j * (1 + k1) + k + 1) few))) (fun j => Tn (n + 4 + j * (1 + k1)) rest) (by simp) (by omega)]
      · simp [gridI, gridD]
      · intro j hjn
        have hjb : (j + 1) * (1 + k1) ≤ 8 * 8 := Nat.mul_le_mul (by omega) (by omega)
        have hje : (j + 1) * (1 + k1) = j * (1 + k1) + (1 + k1) := by rw [Nat.add_mul, Nat.one_mul]
        rw [eCall, aCons, comp_rst (n := 1 + k1) (fun k => .int (mixV ns (n + 4 + j * (1 + k1) + k + 1) few)) (fun k => Tn (n + 4 + j * (1 + k1) + k) rest) (by simp [wipeF]) (by omega)]
        · simp [hje, Nat.add_assoc]
        · intro k hkn
          have := F_draw ns (n + 4 + j * (1 + k1) + k) hf1 (by omega) rest
          simp [wipeF]
          exact this
end Py
set_option maxRecDepth 100000
set_option maxHeartbeats 1000000
namespace Py
open PySem PySem.Spec PyProof.Rows L2
/-! ### the law's deeds -/
@[simp] theorem three_sz : 3 ≤ sz := by unfold sz; omega
@[simp] theorem five_sz : 5 ≤ sz := by unfold sz; omega
@[simp] theorem one_sz : 1 ≤ sz := by unfold sz; omega
theorem intD_bl (b : Bool) (S : Sto) : intD [.bl b] S = .ok (.int (if b then 1 else 0)) S := id rfl
theorem mul_small {i j : Int} {S : Sto} (h : smallI i ∨ smallI j) : mulD (.int i) (.int j) S = .ok (.int (i * j)) S := by simp [mulD, h]
theorem small_of {i : Int} (h0 : -1000000000 ≤ i) (h : i ≤ 1000000000) : smallI i := by unfold smallI; omega
theorem cut_part {w l b : Nat} (hl : l < max 1 (w - 1)) (hw : 0 < w) (hb : b < 2) : ∃ a : Nat, 0 < a ∧ l + a ≤ w ∧ (w : Int) - l - (b : Int) * (if decide ((1 : Int) < (w : Int) - l) then 1 else 0) = (a : Int) := by
  by_cases c : (1 : Int) < (w : Int) - l
  · refine ⟨w - l - b, by omega, by omega, ?_⟩
    simp [c]
    omega
  · refine ⟨w - l, by omega, by omega, ?_⟩
    simp [c]
    omega
theorem G_deed (ns : List Int) (n : Nat) {s : Nat × Nat} (hs : Sz s) (hn : n < 800000) (rest : Sto) : ∃ d s' n', okDeed d = true ∧ mvS d s = some s' ∧ n' ≤ n + 5 ∧ F_law_deed [scr ns, .ref 0, .int s.1, .int s.2] (Tn n rest) = .ok d.d (Tn n' rest) := by
  have e : F_law_deed [scr ns, .ref 0, .int s.1, .int s.2] (Tn n rest) = bodyRes (b_law_deed [some (scr ns), some (.ref 0), some (.int s.1), some (.int s.2), none, none, none, none, none] (Tn n rest)) := rfl
  rw [e]
  unfold b_law_deed
  obtain ⟨w, h⟩ := s
  obtain ⟨k, hk, d0⟩ := F_drawN ns n (many := 9) (by decide) (by omega) rest
  have d0' : F_law_draw [scr ns, .ref 0, .int 9] (Tn n rest) = .ok (.int k) (Tn (n + 1) rest) := d0
  rw [sq_set (S1 := Tn (n + 1) rest) (d := .int k) (by simp; exact d0')]
  simp only [List.set_cons_succ, List.set_cons_zero]
  by_cases c1 : k < 2
  · refine ⟨.turn, _, n + 1, rfl, rfl, by omega, ?_⟩
    rw [sq_t (S1 := Tn (n + 1) rest) (by simp; omega), sq_r (S1 := Tn (n + 1) rest) (d := Deed.turn.d) (by simp [Deed.d])]
    rfl
  rw [sq_f (S1 := Tn (n + 1) rest) (by simp; omega)]
  by_cases c2 : k < 4
  · refine ⟨.mirror, _, n + 1, rfl, rfl, by omega, ?_⟩
    rw [sq_t (S1 := Tn (n + 1) rest) (by simp; omega), sq_r (S1 := Tn (n + 1) rest) (d := Deed.mirror.d) (by simp [Deed.d])]
    rfl
  rw [sq_f (S1 := Tn (n + 1) rest) (by simp; omega)]
  by_cases c3 : k = 4
  · refine ⟨.invert, _, n + 1, rfl, rfl, by omega, ?_⟩
    rw [sq_t (S1 := Tn (n + 1) rest) (by simp; omega), sq_r (S1 := Tn (n + 1) rest) (d := Deed.invert.d) (by simp [Deed.d])]
    rfl
  rw [sq_f (S1 := Tn (n + 1) rest) (by simp; omega)]
  by_cases c4 : k = 5
  · obtain ⟨l, hl, d1⟩ := F_drawN ns (n + 1) (many := 19) (by decide) (by omega) rest
    have d1' : F_law_draw [scr ns, .ref 0, .int 19] (Tn (n + 1) rest) = .ok (.int l) (Tn (n + 2) rest) := d1
    refine ⟨.light (l - 9), _, n + 2, by simp [okDeed]; omega, rfl, by omega, ?_⟩
    rw [sq_t (S1 := Tn (n + 1) rest) (by simp; omega), sq_r (S1 := Tn (n + 2) rest) (d := (Deed.light ((l : Int) - 9)).d) (by simp [d1', Deed.d])]
    rfl
  rw [sq_f (S1 := Tn (n + 1) rest) (by simp; omega)]
  unfold Sz at hs
  simp only at hs
  by_cases c5 : k = 6 ∧ max w h > 2
  · have m2 : (2 : Int) < max (w : Int) (h : Int) := by omega
    refine ⟨.halve, _, n + 1, rfl, rfl, by omega, ?_⟩
    rw [sq_t (S1 := Tn (n + 1) rest) (by simp [c5.1, max0_eq, m2]), sq_r (S1 := Tn (n + 1) rest) (d := Deed.halve.d) (by simp [Deed.d])]
    rfl
  have f5 : sIf (tAndM (tVal (e2 (eqD false) (eVar 4) (eC (.int 6)))) (tVal (e2 gtD (eCall maxD (aCons (eVar 2) (aCons (eVar 3) aNil))) (eC (.int 2))))) (sRet (eTup (aCons (eC (.str "halve")) aNil))) sNil [some (scr ns), some (.ref 0), some (.int w), some (.int h), some (.int k), none, none, none, none] (Tn (n + 1) rest) = .nx [some (scr ns), some (.ref 0), some (.int w), some (.int h), some (.int k), none, none, none, none] (Tn (n + 1) rest) := by
    by_cases c6 : k = 6
    · have m2 : ¬ (2 : Int) < max (w : Int) (h : Int) := by omega
      simp [sIf, c6, max0_eq, m2, sNil]
    · have c6' : ¬ ((k : Int) = 6) := by omega
      simp [sIf, c6', sNil]
  rw [sq_nx f5]
  have hx : max (1 : Int) ((w : Int) - 1) = ((max 1 (w - 1) : Nat) : Int) := by omega
  have hy : max (1 : Int) ((h : Int) - 1) = ((max 1 (h - 1) : Nat) : Int) := by omega
  obtain ⟨l, hl, d1⟩ := F_drawN ns (n + 1) (many := max 1 (w - 1)) (by omega) (by omega) rest
  obtain ⟨t, ht, d2⟩ := F_drawN ns (n + 2) (many := max 1 (h - 1)) (by omega) (by omega) rest
  obtain ⟨b1, hb1, d3⟩ := F_drawN ns (n + 3) (many := 2) (by omega) (by omega) rest
  obtain ⟨b2, hb2, d4⟩ := F_drawN ns (n + 4) (many := 2) (by omega) (by omega) rest
  rw [sq_set (S1 := Tn (n + 2) rest) (d := .int l) (by simp [max0_eq]; rw [hx]; exact d1)]
  rw [sq_set (S1 := Tn (n + 3) rest) (d := .int t) (by simp [max0_eq]; rw [hy]; exact d2)]
  obtain ⟨a, ha0, ha1, ha⟩ := cut_part hl hs.1 hb1
  obtain ⟨b, hb0, hb', hb⟩ := cut_part ht hs.2.1 hb2
  have d3' : F_law_draw [scr ns, .ref 0, .int 2] (Tn (n + 3) rest) = .ok (.int b1) (Tn (n + 4) rest) := d3
  have d4' : F_law_draw [scr ns, .ref 0, .int 2] (Tn (n + 4) rest) = .ok (.int b2) (Tn (n + 5) rest) := d4
  rw [sq_set (S1 := Tn (n + 4) rest) (d := .int a) (by
    simp only [ap_2, ap_var, List.set_cons_succ, List.set_cons_zero, List.getElem?_cons_succ, List.getElem?_cons_zero, ap_call, ap_cons, ap_c, ap_nil, Res.bind_ok, ap_sub, d3', ap_gt, intD_bl]
    rw [mul_small (.inl (small_of (by omega) (by omega)))]
    simp only [Res.bind_ok, ap_sub, ha])]
  rw [sq_set (S1 := Tn (n + 5) rest) (d := .int b) (by
    simp only [ap_2, ap_var, List.set_cons_succ, List.set_cons_zero, List.getElem?_cons_succ, List.getElem?_cons_zero, ap_call, ap_cons, ap_c, ap_nil, Res.bind_ok, ap_sub, d4', ap_gt, intD_bl]
    rw [mul_small (.inl (small_of (by omega) (by omega)))]
    simp only [Res.bind_ok, ap_sub, hb])]
  refine ⟨.cut l t a b, (a, b), n + 5, by simp [okDeed]; omega, by simp [mvS, ha1, hb'], by omega, ?_⟩
  rw [s_ret (S1 := Tn (n + 5) rest) (d := (Deed.cut l t a b).d) (by simp [Deed.d])]
  rfl
theorem fdiv_eq {i j : Int} {S : Sto} (h0 : 0 < j) (h1 : j < 1000) : fdivD (.int i) (.int j) S = .ok (.int (i / j)) S := by
  simp only [fdivD]
  rw [if_pos ⟨h0, by omega⟩]
theorem G_behind_size {d : Deed} {s s' : Nat × Nat} (h : mvS d s = some s') (S : Sto) : F_law_behind_size [.int s.1, .int s.2, d.d] S = .ok (.tup [.int s'.1, .int s'.2]) S := by
  have e : F_law_behind_size [.int s.1, .int s.2, d.d] S = bodyRes (b_law_behind_size [some (.int s.1), some (.int s.2), some d.d] S) := rfl
  rw [e]
  unfold b_law_behind_size
  have x0 := d_ix0 d S
  have e1 := eqD_str (S := S) d.ok ok_turn (nm_turn d)
  have e3 := eqD_str (S := S) d.ok ok_halve (nm_halve d)
  have e4 := eqD_str (S := S) d.ok ok_cut (nm_cut d)
  cases d with
  | turn =>
    cases h
    rw [sq_t (S1 := S) (by simp [x0, e1, Deed.isTurn]), sq_r (S1 := S) (d := .tup [.int s.2, .int s.1]) (by simp)]
    rfl
  | halve =>
    cases h
    rw [sq_f (S1 := S) (by simp [x0, e1, Deed.isTurn]), sq_t (S1 := S) (by simp [x0, e3, Deed.isHalve]), sq_r (S1 := S) (d := .tup [.int ((s.1 + 1 : Int) / 2), .int ((s.2 + 1 : Int) / 2)]) (by simp [fdiv_eq])]
    simp
  | cut l t a b =>
    simp only [mvS] at h
    split at h
    · cases h
      have i3 : ixD (Deed.cut l t a b).d (.int 3) S = .ok (.int a) S := ix_tup (ds := [.str "cut", .int l, .int t, .int a, .int b]) (j := 3) rfl (by simp)
      have i4 : ixD (Deed.cut l t a b).d (.int 4) S = .ok (.int b) S := ix_tup (ds := [.str "cut", .int l, .int t, .int a, .int b]) (j := 4) rfl (by simp)
      rw [sq_f (S1 := S) (by simp [x0, e1, Deed.isTurn]), sq_f (S1 := S) (by simp [x0, e3, Deed.isHalve]), sq_t (S1 := S) (by simp [x0, e4, Deed.isCut]), sq_r (S1 := S) (d := .tup [.int a, .int b]) (by simp [i3, i4])]
      rfl
    · cases h
  | _ =>
    cases h
    rw [sq_f (S1 := S) (by simp [x0, e1, Deed.isTurn]), sq_f (S1 := S) (by simp [x0, e3, Deed.isHalve]), sq_f (S1 := S) (by simp [x0, e4, Deed.isCut]), s_ret (S1 := S) (d := .tup [.int s.1, .int s.2]) (by simp)]
    rfl
end Py
set_option maxRecDepth 100000
set_option maxHeartbeats 1000000
namespace Py
open PySem PySem.Spec PyProof.Rows L2
@[simp] theorem ap_methL (op : D → List D → Sto → Res D) (f : ME) (g : MA) (fr : Fr) (S : Sto) : eMethL op f g fr S = (f fr S).bind fun d S => match lstOf S d with | none => .bad | some _ => (g fr S).bind fun xs S => op d xs S := id rfl
theorem top_get (n : Nat) (rest : Sto) (o : O) : (Tn n (rest ++ [o]))[rest.length + 1]? = some o := by simp
theorem top_lst (n : Nat) (rest : Sto) (acc : List D) : lstOf (Tn n (rest ++ [.lst acc])) (.ref (rest.length + 1)) = some acc := by
  simp only [lstOf, top_get]
theorem top_seq (n : Nat) (rest : Sto) (acc : List D) : seqOf (Tn n (rest ++ [.lst acc])) (.ref (rest.length + 1)) = some acc := top_lst n rest acc
theorem top_app (n : Nat) (rest : Sto) (acc : List D) (x : D) (h : acc.length < 1000000) : appendD (.ref (rest.length + 1)) [x] (Tn n (rest ++ [.lst acc])) = .ok .non (Tn n (rest ++ [.lst (acc ++ [x])])) := by
  have e : (Tn n (rest ++ [.lst acc])).set (rest.length + 1) (.lst (acc ++ [x])) = Tn n (rest ++ [.lst (acc ++ [x])]) := by simp
  have h' : acc.length < sz := h
  simp only [appendD, top_get, h', if_true, e]
noncomputable abbrev lp_deeds : MS := (sSeq (sSet 7 (eCall F_law_deed (aCons (eVar 0) (aCons (eVar 1) (aCons (eVar 2) (aCons (eVar 3) aNil))))))
    (sSeq (sAsg (gT 2 (gsC (gN 2) (gsC (gN 3) gs0))) (eCall F_law_behind_size (aCons (eVar 2) (aCons (eVar 3) (aCons (eVar 7) aNil)))))
    (sExpr (eMethL appendD (eVar 5) (aCons (eVar 7) aNil)))))
theorem szs_app : ∀ (as bs : List Deed) (s : Nat × Nat), szs (as ++ bs) s = (szs as s).bind (szs bs)
  | [], bs, s => rfl
  | a :: as, bs, s => by
    simp only [List.cons_append, szs]
    cases mvS a s with
    | none => rfl
    | some s1 => exact szs_app as bs s1
theorem loop_deeds {it : Its} (hi : it.guard = none) (ns : List Int) {x4 : Option D} (rest : Sto) : ∀ (xs : List D) (n : Nat) (s : Nat × Nat) (acc : List D) (o6 o7 : Option D), Sz s → n + 5 * xs.length < 800000 → acc.length + xs.length < 1000000 →
    ∃ ds n' s' a b, ds.all okDeed = true ∧ szs ds s = some s' ∧ ds.length = xs.length ∧ n' ≤ n + 5 * xs.length ∧
      loopF it (gN 6) lp_deeds xs [some (scr ns), some (.ref 0), some (.int s.1), some (.int s.2), x4, some (.ref (rest.length + 1)), o6, o7] (Tn n (rest ++ [.lst acc])) =
        .nx [some (scr ns), some (.ref 0), some (.int s'.1), some (.int s'.2), x4, some (.ref (rest.length + 1)), a, b] (Tn n' (rest ++ [.lst (acc ++ ds.map Deed.d)]))
  | [], n, s, acc, o6, o7, hs, hn, ha => ⟨[], n, s, o6, o7, rfl, rfl, rfl, by omega, by simp only [loopF, if_pos (show okG it _ by unfold okG; rw [hi]; trivial), List.map_nil, List.append_nil]⟩
  | x :: xs, n, s, acc, o6, o7, hs, hn, ha => by
    simp only [List.length_cons] at hn ha
    obtain ⟨d, s1, n1, h1, h2, h3, h4⟩ := G_deed ns n hs (by omega) (rest ++ [.lst acc])
    have h5 := G_behind_size h2 (Tn n1 (rest ++ [.lst acc]))
    have h6 := top_app n1 rest acc d.d (by omega)
    have h7 := top_lst n1 rest acc
    obtain ⟨ds, n', s', a, b, i1, i2, i3, i4, ih⟩ := loop_deeds hi ns (x4 := x4) rest xs n1 s1 (acc ++ [d.d]) (some x) (some d.d) (hs.mv h1 h2) (by omega) (by simp; omega)
    refine ⟨d :: ds, n', s', a, b, by simp [h1]; simpa using i1, by simp [szs, h2, i2], by simp [i3], by simp; omega, ?_⟩
    have ho : ∀ S, okG it S := fun S => by unfold okG; rw [hi]; trivial
    simp only [loopF, if_pos (ho _), gN, List.set_cons_succ, List.set_cons_zero]
    have hb : lp_deeds [some (scr ns), some (.ref 0), some (.int s.1), some (.int s.2), x4, some (.ref (rest.length + 1)), some x, o7] (Tn n (rest ++ [.lst acc])) = .nx [some (scr ns), some (.ref 0), some (.int s1.1), some (.int s1.2), x4, some (.ref (rest.length + 1)), some x, some d.d] (Tn n1 (rest ++ [.lst (acc ++ [d.d])])) := by
      unfold lp_deeds
      rw [sq_set (S1 := Tn n1 (rest ++ [.lst acc])) (d := d.d) (by simp; exact h4)]
      simp only [List.set_cons_succ, List.set_cons_zero]
      rw [sq_nx (fr1 := [some (scr ns), some (.ref 0), some (.int s1.1), some (.int s1.2), x4, some (.ref (rest.length + 1)), some x, some d.d]) (S1 := Tn n1 (rest ++ [.lst acc]))]
      · simp [sExpr, h7, h6]
      · simp [sAsg, h5, gT, gsC, gs0, gN]
    rw [hb]
    simp only [ih, List.map_cons, List.append_assoc, List.singleton_append]
theorem G_deeds (ns : List Int) (n most : Nat) {s : Nat × Nat} (hs : Sz s) (hm : most ≤ 20) (hn : n < 700000) (rest : Sto) : ∃ ds n' s', ds.all okDeed = true ∧ szs ds s = some s' ∧ ds.length ≤ most ∧ n' ≤ n + 101 ∧ F_law_deeds [scr ns, .ref 0, .int s.1, .int s.2, .int most] (Tn n rest) = .ok (deedsD ds) (Tn n' rest) := by
  have e : F_law_deeds [scr ns, .ref 0, .int s.1, .int s.2, .int most] (Tn n rest) = leaveR (Tn n rest) (bodyRes (b_law_deeds [some (scr ns), some (.ref 0), some (.int s.1), some (.int s.2), some (.int most), none, none, none] (Tn n rest))) := rfl
  obtain ⟨k, hk, d0⟩ := F_drawN ns n (many := most + 1) (by omega) (by omega) (rest ++ [.lst []])
  obtain ⟨ds, n', s', a, b, i1, i2, i3, i4, ih⟩ := loop_deeds (it := ⟨rngD 0 k, none⟩) rfl ns (x4 := some (.int most)) rest (rngD 0 k) (n + 1) s [] none none hs (by rw [rngD_len]; omega) (by rw [rngD_len]; simp; omega)
  rw [rngD_len] at i3 i4
  refine ⟨ds, n', s', i1, i2, by omega, by omega, ?_⟩
  rw [e]
  unfold b_law_deeds
  rw [sq_set (S1 := Tn n (rest ++ [.lst []])) (d := .ref (rest.length + 1)) (by simp)]
  simp only [List.set_cons_succ, List.set_cons_zero]
  have hr : iRng1' (aCons (eCall F_law_draw (aCons (eVar 0) (aCons (eVar 1) (aCons (e2 addD (eVar 4) (eC (.int 1))) aNil)))) aNil) [some (scr ns), some (.ref 0), some (.int s.1), some (.int s.2), some (.int most), some (.ref (rest.length + 1)), none, none] (Tn n (rest ++ [.lst []])) = .ok ⟨rngD 0 k, none⟩ (Tn (n + 1) (rest ++ [.lst []])) := by
    refine irng ?_ (by omega)
    have d0' : F_law_draw [scr ns, .ref 0, .int ((most : Int) + 1)] (Tn n (rest ++ [.lst []])) = .ok (.int k) (Tn (n + 1) (rest ++ [.lst []])) := by simpa using d0
    simp [d0']
  rw [sq_nx (show sFor _ (gN 6) lp_deeds _ _ = _ by simp only [sFor, hr, Res.then_ok]; exact ih)]
  rw [s_ret (S1 := Tn n' (rest ++ [.lst (ds.map Deed.d)])) (d := deedsD ds) (by simp [tupleD, top_seq])]
  rw [body_ret, leave_Tn (lower_deeds _ ds)]
/-! ### the law's own forms -/
theorem H_turned {s : Nat × Nat} {f : Nat × Nat → D} (h0 : 0 < s.2) (h1 : s.1 ≤ 1000) (h2 : s.2 ≤ 1000) (S : Sto) : F_law_turned [gridD s f] S = .ok (gridD (s.2, s.1) fun p => f (s.2 - 1 - p.2, p.1)) S := by
  have e : F_law_turned [gridD s f] S = bodyRes (b_law_turned [some (gridD s f), none, none] S) := rfl
  unfold b_law_turned at e
  have r0 := g_row (S := S) (s := s) (f := f) (i := 0) (j := 0) rfl h0
  have gl := g_len S s f
  rw [e, s_ret (S1 := S) (d := gridD (s.2, s.1) fun p => f (s.2 - 1 - p.2, p.1))]
  · rfl
  rw [eCall, aCons, comp_rt (S1 := S) (n := s.1) (φ := fun k => .tup (tb s.2 fun j => f (s.2 - 1 - j, k)))]
  · simp [gridD]
  · simp [r0]
  · omega
  · intro k hk
    rw [eCall, aCons, comp_rt (S1 := S) (n := s.2) (φ := fun j => f (s.2 - 1 - j, k))]
    · simp
    · simp [wipeF, gl]
    · omega
    · intro j hj
      have r1 := g_row (S := S) (s := s) (f := f) (i := (s.2 : Int) - 1 - j) (j := s.2 - 1 - j) (by omega) (by omega)
      simp [wipeF, gl, r1, t_cell (S := S) (n := s.1) (f := fun k => f (s.2 - 1 - j, k)) (i := (k : Int)) rfl hk]
theorem H_mirrored {s : Nat × Nat} {f : Nat × Nat → D} (h1 : s.1 ≤ 1000) (h2 : s.2 ≤ 1000) (S : Sto) : F_law_mirrored [gridD s f] S = .ok (gridD s fun p => f (p.1, s.1 - 1 - p.2)) S := by
  have e : F_law_mirrored [gridD s f] S = bodyRes (b_law_mirrored [some (gridD s f), none, none] S) := rfl
  unfold b_law_mirrored at e
  rw [e, s_ret (S1 := S) (d := gridD s fun p => f (p.1, s.1 - 1 - p.2))]
  · rfl
  rw [eCall, aCons, comp_tb (S1 := S) (n := s.2) (g := fun j => .tup (tb s.1 fun k => f (j, k))) (φ := fun j => .tup (tb s.1 fun k => f (j, s.1 - 1 - k)))]
  · simp [gridD]
  · left; simp [gridD]
  · unfold sz; omega
  · intro j hj
    rw [eCall, aCons, comp_rt (S1 := S) (n := s.1) (φ := fun k => f (j, s.1 - 1 - k))]
    · simp
    · simp [wipeF]
    · omega
    · intro k hk
      simp [wipeF, t_cell (S := S) (n := s.1) (f := fun k => f (j, k)) (i := (s.1 : Int) - 1 - k) (j := s.1 - 1 - k) (by omega) (by omega)]
theorem H_worth (d : Deed) (x : Int) (S : Sto) : F_law_worth [.int x, d.d] S = .ok (.int (lgt d x)) S := by
  have e : F_law_worth [.int x, d.d] S = bodyRes (b_law_worth [some (.int x), some d.d] S) := rfl
  rw [e]
  unfold b_law_worth
  have x0 := d_ix0 d S
  have e1 := eqD_str (S := S) d.ok ok_invert (nm_invert d)
  have e2' := eqD_str (S := S) d.ok ok_light (nm_light d)
  cases d with
  | invert => rw [sq_t (S1 := S) (by simp [x0, e1, Deed.isInvert]), sq_r (S1 := S) (d := .int (9 - x)) (by simp)]; rfl
  | light l =>
    have i1 : ixD (Deed.light l).d (.int 1) S = .ok (.int l) S := ix_tup (ds := [.str "light", .int l]) (j := 1) rfl (by simp)
    rw [sq_f (S1 := S) (by simp [x0, e1, Deed.isInvert]), sq_t (S1 := S) (by simp [x0, e2', Deed.isLight]), sq_r (S1 := S) (d := .int (min 9 (max 0 (x + l)))) (by simp [i1, max0_eq, min0_eq])]
    simp [lgt]
    omega
  | _ => rw [sq_f (S1 := S) (by simp [x0, e1, Deed.isInvert]), sq_f (S1 := S) (by simp [x0, e2', Deed.isLight]), s_ret (S1 := S) (d := .int x) (by simp)]; rfl
end Py
set_option maxRecDepth 100000
set_option maxHeartbeats 1000000
namespace Py
open PySem PySem.Spec PyProof.Rows L2
/-! ### == of plain data is sameness -/
def pl : Nat → D → Bool
  | 0, _ => false
  | n + 1, .non => true
  | n + 1, .int _ => true
  | n + 1, .str x => PyData.strOk x
  | n + 1, .tup ds => ds.all (pl n)
  | n + 1, .lst ds => ds.all (pl n)
  | _, _ => false
theorem pls_data {n : Nat} {S : Sto} (ih : ∀ a, pl n a = true → ∃ p, toP n S a = some p) : ∀ as : List D, as.all (pl n) = true → ∃ ps, toPs (toP n S) as = some ps
  | [], h => ⟨[], rfl⟩
  | a :: as, h => by
    simp only [List.all_cons, Bool.and_eq_true] at h
    obtain ⟨p, e⟩ := ih a h.1
    obtain ⟨ps, es⟩ := pls_data ih as h.2
    exact ⟨p :: ps, by simp only [toPs, e, es]⟩
theorem pl_data {S : Sto} : ∀ (n : Nat) (a : D), pl n a = true → ∃ p, toP n S a = some p
  | n + 1, .non, h => ⟨_, rfl⟩
  | n + 1, .int _, h => ⟨_, rfl⟩
  | n + 1, .str x, h => by simp only [pl] at h; exact ⟨.str x, by simp only [toP, h, if_true]⟩
  | n + 1, .tup ds, h => by
    simp only [pl] at h
    obtain ⟨ps, e⟩ := pls_data (S := S) (pl_data n) ds h
    exact ⟨.tuple ps, by simp only [toP, e, Option.map_some]⟩
  | n + 1, .lst ds, h => by
    simp only [pl] at h
    obtain ⟨ps, e⟩ := pls_data (S := S) (pl_data n) ds h
    exact ⟨.list ps, by simp only [toP, e, Option.map_some]⟩
theorem pls_eqv {n : Nat} {S : Sto} (ih : ∀ a b p q, pl n a = true → pl n b = true → toP n S a = some p → toP n S b = some q → (PyData.eqv p q = true ↔ a = b)) : ∀ (as bs : List D) (ps qs : List PyData), as.all (pl n) = true → bs.all (pl n) = true → toPs (toP n S) as = some ps → toPs (toP n S) bs = some qs → (PyData.eqvAll ps qs = true ↔ as = bs)
  | [], [], ps, qs, ha, hb, ea, eb => by cases ea; cases eb; simp [PyData.eqvAll]
  | [], b :: bs, ps, qs, ha, hb, ea, eb => by
    cases ea
    simp only [toPs] at eb
    split at eb
    · cases eb; simp [PyData.eqvAll]
    · cases eb
  | a :: as, [], ps, qs, ha, hb, ea, eb => by
    cases eb
    simp only [toPs] at ea
    split at ea
    · cases ea; simp [PyData.eqvAll]
    · cases ea
  | a :: as, b :: bs, ps, qs, ha, hb, ea, eb => by
    simp only [List.all_cons, Bool.and_eq_true] at ha hb
    simp only [toPs] at ea eb
    split at ea
    · rename_i p ps' e1 e2
      cases ea
      split at eb
      · rename_i q qs' f1 f2
        cases eb
        have h1 := ih a b p q ha.1 hb.1 e1 f1
        have h2 := pls_eqv ih as bs ps' qs' ha.2 hb.2 e2 f2
        simp only [PyData.eqvAll, Bool.and_eq_true, h1, h2, List.cons.injEq]
      · cases eb
    · cases ea
theorem pl_eqv {S : Sto} : ∀ (n : Nat) (a b : D) (p q : PyData), pl n a = true → pl n b = true → toP n S a = some p → toP n S b = some q → (PyData.eqv p q = true ↔ a = b)
  | 0, a, b, p, q, ha, hb, ea, eb => by simp [pl] at ha
  | n + 1, a, b, p, q, ha, hb, ea, eb => by
    have ih := pls_eqv (n := n) (S := S) (pl_eqv n)
    have red : ∀ ds : List D, ∀ p, (toPs (toP n S) ds).map PyData.tuple = some p → ∃ ps, p = .tuple ps ∧ toPs (toP n S) ds = some ps := fun ds p h => by
      cases e : toPs (toP n S) ds with
      | none => rw [e] at h; cases h
      | some ps => rw [e] at h; cases h; exact ⟨ps, rfl, rfl⟩
    have rel : ∀ ds : List D, ∀ p, (toPs (toP n S) ds).map PyData.list = some p → ∃ ps, p = .list ps ∧ toPs (toP n S) ds = some ps := fun ds p h => by
      cases e : toPs (toP n S) ds with
      | none => rw [e] at h; cases h
      | some ps => rw [e] at h; cases h; exact ⟨ps, rfl, rfl⟩
    have hA : ∀ (x : D) (p : PyData), pl (n + 1) x = true → toP (n + 1) S x = some p → (x = .non ∧ p = .none) ∨ (∃ i, x = .int i ∧ p = .int i) ∨ (∃ z, x = .str z ∧ p = .str z) ∨ (∃ ds ps, x = .tup ds ∧ p = .tuple ps ∧ ds.all (pl n) = true ∧ toPs (toP n S) ds = some ps) ∨ (∃ ds ps, x = .lst ds ∧ p = .list ps ∧ ds.all (pl n) = true ∧ toPs (toP n S) ds = some ps) := by
      intro x p hx ex
      cases x with
      | non => cases ex; exact .inl ⟨rfl, rfl⟩
      | int i => cases ex; exact .inr (.inl ⟨i, rfl, rfl⟩)
      | str z => simp only [pl] at hx; simp only [toP, hx, if_true] at ex; cases ex; exact .inr (.inr (.inl ⟨z, rfl, rfl⟩))
      | tup ds => simp only [pl] at hx; simp only [toP] at ex; obtain ⟨ps, rfl, e⟩ := red ds p ex; exact .inr (.inr (.inr (.inl ⟨ds, ps, rfl, rfl, hx, e⟩)))
      | lst ds => simp only [pl] at hx; simp only [toP] at ex; obtain ⟨ps, rfl, e⟩ := rel ds p ex; exact .inr (.inr (.inr (.inr ⟨ds, ps, rfl, rfl, hx, e⟩)))
      | _ => simp [pl] at hx
    rcases hA a p ha ea with ⟨rfl, rfl⟩ | ⟨i, rfl, rfl⟩ | ⟨z, rfl, rfl⟩ | ⟨ds, ps, rfl, rfl, h1, h2⟩ | ⟨ds, ps, rfl, rfl, h1, h2⟩ <;>
      rcases hA b q hb eb with ⟨rfl, rfl⟩ | ⟨j, rfl, rfl⟩ | ⟨w, rfl, rfl⟩ | ⟨es, qs, rfl, rfl, k1, k2⟩ | ⟨es, qs, rfl, rfl, k1, k2⟩ <;>
      first
        | (simp only [PyData.eqv, D.tup.injEq, D.lst.injEq]; exact ih ds es ps qs h1 k1 h2 k2)
        | simp [PyData.eqv]
open Classical in
theorem eqD_pl {neg : Bool} {S : Sto} {a b : D} (ha : pl 12 a = true) (hb : pl 12 b = true) : eqD neg a b S = .ok (.bl (if neg then !decide (a = b) else decide (a = b))) S := by
  obtain ⟨p, hp⟩ := pl_data (S := S) 12 a ha
  obtain ⟨q, hq⟩ := pl_data (S := S) 12 b hb
  have h := pl_eqv 12 a b p q ha hb hp hq
  have e : PyData.eqv p q = decide (a = b) := by rw [Bool.eq_iff_iff]; simpa using h
  simp only [eqD, dP, hp, hq, e]
theorem pl_int (n : Nat) (i : Int) : pl (n + 1) (.int i) = true := rfl
theorem pl_tb {n m : Nat} {f : Nat → D} (h : ∀ k, pl n (f k) = true) : pl (n + 1) (.tup (tb m f)) = true := by
  simp only [pl, tb_filter_all]
  simp [h]
theorem pl_grid {n : Nat} {s : Nat × Nat} {g : Nat × Nat → Int} : pl (n + 3) (gridI s g) = true := pl_tb fun j => pl_tb fun k => pl_int _ _
theorem pl_gridD {n : Nat} {s : Nat × Nat} {f : Nat × Nat → D} (h : ∀ p, pl n (f p) = true) : pl (n + 2) (gridD s f) = true := pl_tb fun j => pl_tb fun k => h _
theorem ne_self {S : Sto} {a : D} (h : pl 12 a = true) : eqD true a a S = .ok (.bl false) S := by rw [eqD_pl h h]; simp
theorem eq_self' {S : Sto} {a : D} (h : pl 12 a = true) : eqD false a a S = .ok (.bl true) S := by rw [eqD_pl h h]; simp
/-! ### deeds in a row: plain facts -/
def Deed.isL (d : Deed) : Bool := d.isLight || d.isInvert
theorem szs_mv : ∀ (ds : List Deed) (s : Nat × Nat), szs (ds.filter fun d => !d.isL) s = szs ds s
  | [], s => rfl
  | d :: ds, s => by
    cases h : d.isL with
    | true =>
      rw [List.filter_cons_of_neg (by simp [h]), szs_mv ds s]
      cases d <;> first | rfl | cases h
    | false =>
      rw [List.filter_cons_of_pos (by simp [h])]
      simp only [szs]
      congr 1
      funext s'
      exact szs_mv ds s'
theorem pos_mv : ∀ (ds : List Deed) (s : Nat × Nat), pos (ds.filter fun d => !d.isL) s = pos ds s
  | [], s => rfl
  | d :: ds, s => by
    funext p
    cases h : d.isL with
    | true =>
      rw [List.filter_cons_of_neg (by simp [h]), pos_mv ds s]
      cases d <;> first | rfl | cases h
    | false =>
      rw [List.filter_cons_of_pos (by simp [h])]
      simp only [pos, pos_mv ds]
theorem lgs_mv : ∀ (ds : List Deed) (x : Int), lgs (ds.filter fun d => !d.isL) x = x
  | [], s => rfl
  | d :: ds, x => by
    cases h : d.isL with
    | true => rw [List.filter_cons_of_neg (by simp [h]), lgs_mv ds x]
    | false =>
      rw [List.filter_cons_of_pos (by simp [h])]
      simp only [lgs, lgs_mv ds]
      cases d <;> first | rfl | cases h
theorem lgs_lt : ∀ (ds : List Deed) (x : Int), lgs (ds.filter Deed.isL) x = lgs ds x
  | [], s => rfl
  | d :: ds, x => by
    cases h : d.isL with
    | false =>
      rw [List.filter_cons_of_neg (by simp [h]), lgs_lt ds x]
      cases d <;> first | rfl | cases h
    | true =>
      rw [List.filter_cons_of_pos (by simp [h])]
      simp only [lgs, lgs_lt ds]
theorem szs_lt : ∀ (ds : List Deed) (s : Nat × Nat), szs (ds.filter Deed.isL) s = some s
  | [], s => rfl
  | d :: ds, s => by
    cases h : d.isL with
    | false => rw [List.filter_cons_of_neg (by simp [h]), szs_lt ds s]
    | true =>
      rw [List.filter_cons_of_pos (by simp [h])]
      have : mvS d s = some s := by cases d <;> first | rfl | cases h
      simp only [szs, this, Option.bind_some, szs_lt ds]
theorem pos_lt : ∀ (ds : List Deed) (s p : Nat × Nat), pos (ds.filter Deed.isL) s p = p
  | [], s, p => rfl
  | d :: ds, s, p => by
    cases h : d.isL with
    | false => rw [List.filter_cons_of_neg (by simp [h]), pos_lt ds s]
    | true =>
      rw [List.filter_cons_of_pos (by simp [h])]
      simp only [pos, pos_lt ds]
      cases d <;> first | rfl | cases h
theorem pos_app : ∀ (as bs : List Deed) (s s1 p : Nat × Nat), szs as s = some s1 → pos (as ++ bs) s p = pos as s (pos bs s1 p)
  | [], bs, s, s1, p, h => by cases h; rfl
  | a :: as, bs, s, s1, p, h => by
    simp only [szs] at h
    cases e : mvS a s with
    | none => rw [e] at h; cases h
    | some s2 =>
      rw [e] at h
      simp only [List.cons_append, pos, e, Option.getD_some, pos_app as bs s2 s1 p h]
theorem lgs_app : ∀ (as bs : List Deed) (x : Int), lgs (as ++ bs) x = lgs bs (lgs as x)
  | [], bs, x => rfl
  | a :: as, bs, x => by simp only [List.cons_append, lgs, lgs_app as bs]
theorem lgt_range {d : Deed} {x : Int} (h0 : 0 ≤ x) (h9 : x ≤ 9) : 0 ≤ lgt d x ∧ lgt d x ≤ 9 := by
  cases d <;> simp only [lgt] <;> omega
theorem lgs_range : ∀ {ds : List Deed} {x : Int}, 0 ≤ x → x ≤ 9 → 0 ≤ lgs ds x ∧ lgs ds x ≤ 9
  | [], x, h0, h9 => ⟨h0, h9⟩
  | d :: ds, x, h0, h9 => lgs_range (ds := ds) (lgt_range h0 h9).1 (lgt_range h0 h9).2
def InS (s p : Nat × Nat) : Prop := p.1 < s.2 ∧ p.2 < s.1
theorem mvP_in {d : Deed} {s s' p : Nat × Nat} (e : mvS d s = some s') (h : InS s' p) : InS s (mvP d s p) := by
  unfold InS at h ⊢
  cases d with
  | turn => cases e; simp only [mvP] at h ⊢; omega
  | mirror => cases e; simp only [mvP] at h ⊢; omega
  | halve => cases e; simp only [mvP] at h ⊢; omega
  | cut l t a b =>
    simp only [mvS] at e
    split at e
    · cases e; simp only [mvP] at h ⊢; omega
    · cases e
  | _ => cases e; exact h
theorem pos_in : ∀ {ds : List Deed} {s s' p : Nat × Nat}, szs ds s = some s' → InS s' p → InS s (pos ds s p)
  | [], s, s', p, e, h => by cases e; exact h
  | d :: ds, s, s', p, e, h => by
    simp only [szs] at e
    cases e1 : mvS d s with
    | none => rw [e1] at e; cases e
    | some s1 =>
      rw [e1] at e
      simp only [pos, e1, Option.getD_some]
      exact mvP_in e1 (pos_in e h)
theorem Cells.bh {ds : List Deed} {s s' : Nat × Nat} {g : Nat × Nat → Int} (hc : Cells s g) (e : szs ds s = some s') : Cells s' fun p => lgs ds (g (pos ds s p)) := fun j k hj hk => by
  have := pos_in (p := (j, k)) e ⟨hj, hk⟩
  have h := hc _ _ this.1 this.2
  exact lgs_range h.1 h.2
/-! ### _law_one, _law_done, _law_map -/
theorem H_one {s : Nat × Nat} {g : Nat × Nat → Int} (d : Deed) (hs : Sz s) (S : Sto) :
    F_law_one [gridI s g, d.d] S = (match mvS d s with | none => .ok .non S | some s' => .ok (gridI s' fun p => lgt d (g (mvP d s p))) S) := by
  have e : F_law_one [gridI s g, d.d] S = bodyRes (b_law_one [some (gridI s g), some d.d, none, none, none, none, none, none, none, none] S) := rfl
  rw [e]
  unfold b_law_one
  have h0 := hs.2.1
  have h1 : s.1 ≤ 8 := hs.2.2.1
  have h2 : s.2 ≤ 8 := hs.2.2.2
  have x0 := d_ix0 d S
  have e1 := eqD_str (S := S) d.ok ok_turn (nm_turn d)
  have e2' := eqD_str (S := S) d.ok ok_mirror (nm_mirror d)
  have e3 := eqD_str (S := S) d.ok ok_halve (nm_halve d)
  have e4 := eqD_str (S := S) d.ok ok_cut (nm_cut d)
  have r0 := g_row (S := S) (s := s) (f := fun p => .int (g p)) (i := 0) (j := 0) rfl h0
  have gl := g_len S s (fun p => .int (g p))
  have light : ∀ d' : Deed, sRet (eCall tupleD (aCons (eComp [6] (iSeq (eVar 0)) (gN 6) tTrue (eCall tupleD (aCons (eComp [8] (iSeq (eVar 6)) (gN 8) tTrue (eCall F_law_worth (aCons (eVar 8) (aCons (eVar 1) aNil)))) aNil))) aNil)) [some (gridI s g), some d'.d, none, none, none, none, none, none, none, none] S = .ret (gridI s fun p => lgt d' (g p)) S := fun d' => by
    refine s_ret ?_
    rw [eCall, aCons, comp_tb (S1 := S) (n := s.2) (g := fun j => .tup (tb s.1 fun k => .int (g (j, k)))) (φ := fun j => .tup (tb s.1 fun k => .int (lgt d' (g (j, k)))))]
    · simp [gridI, gridD]
    · left; simp [gridI, gridD]
    · unfold sz; omega
    · intro j hj
      rw [eCall, aCons, comp_tb (S1 := S) (n := s.1) (g := fun k => .int (g (j, k))) (φ := fun k => .int (lgt d' (g (j, k))))]
      · simp
      · left; simp [wipeF]
      · unfold sz; omega
      · intro k hk
        simp [wipeF, H_worth]
  cases d with
  | turn =>
    have := H_turned (f := fun p => .int (g p)) h0 (by omega) (by omega) S
    rw [sq_t (S1 := S) (by simp [x0, e1, Deed.isTurn]), sq_r (S1 := S) (d := gridD (s.2, s.1) fun p => .int (g (s.2 - 1 - p.2, p.1))) (by simp [gridI, this])]
    rfl
  | mirror =>
    have := H_mirrored (s := s) (f := fun p => .int (g p)) (by omega) (by omega) S
    rw [sq_f (S1 := S) (by simp [x0, e1, Deed.isTurn]), sq_t (S1 := S) (by simp [x0, e2', Deed.isMirror]), sq_r (S1 := S) (d := gridD s fun p => .int (g (p.1, s.1 - 1 - p.2))) (by simp [gridI, this])]
    rfl
  | invert => rw [sq_f (S1 := S) (by simp [x0, e1, Deed.isTurn]), sq_f (S1 := S) (by simp [x0, e2', Deed.isMirror]), sq_f (S1 := S) (by simp [x0, e3, Deed.isHalve]), sq_f (S1 := S) (by simp [x0, e4, Deed.isCut]), light .invert]; rfl
  | light l => rw [sq_f (S1 := S) (by simp [x0, e1, Deed.isTurn]), sq_f (S1 := S) (by simp [x0, e2', Deed.isMirror]), sq_f (S1 := S) (by simp [x0, e3, Deed.isHalve]), sq_f (S1 := S) (by simp [x0, e4, Deed.isCut]), light (.light l)]; rfl
  | halve =>
    rw [sq_f (S1 := S) (by simp [x0, e1, Deed.isTurn]), sq_f (S1 := S) (by simp [x0, e2', Deed.isMirror]), sq_t (S1 := S) (by simp [x0, e3, Deed.isHalve])]
    rw [sq_ret (d := gridI ((s.1 + 1) / 2, (s.2 + 1) / 2) fun p => g (2 * p.1, 2 * p.2)) (S1 := S)]
    · rfl
    rw [sq_set (S1 := S) (d := .int (((s.2 + 1) / 2 : Nat) : Int)) (by simp [gridI, gl, fdiv_eq])]
    simp only [List.set_cons_succ, List.set_cons_zero]
    rw [sq_set (S1 := S) (d := .int (((s.1 + 1) / 2 : Nat) : Int)) (by simp [gridI, r0, fdiv_eq])]
    simp only [List.set_cons_succ, List.set_cons_zero]
    refine s_ret ?_
    rw [eCall, aCons, comp_rt (S1 := S) (n := (s.2 + 1) / 2) (φ := fun j => .tup (tb ((s.1 + 1) / 2) fun k => .int (g (2 * j, 2 * k))))]
    · simp [gridI, gridD]
    · simp
    · omega
    · intro j hj
      rw [eCall, aCons, comp_rt (S1 := S) (n := (s.1 + 1) / 2) (φ := fun k => .int (g (2 * j, 2 * k)))]
      · simp
      · simp [wipeF]
      · omega
      · intro k hk
        have r1 := g_row (S := S) (s := s) (f := fun p => .int (g p)) (i := 2 * (j : Int)) (j := 2 * j) (by omega) (by omega)
        have r2 := t_cell (S := S) (n := s.1) (f := fun k => .int (g (2 * j, k))) (i := 2 * (k : Int)) (j := 2 * k) (by omega) (by omega)
        have m1 := mul_small (S := S) (i := 2) (j := (j : Int)) (.inl (small_of (by omega) (by omega)))
        have m2 := mul_small (S := S) (i := 2) (j := (k : Int)) (.inl (small_of (by omega) (by omega)))
        simp [wipeF, gridI, m1, m2, r1, r2]
  | cut l t a b =>
    have q : cutD [D.str "cut", .int l, .int t, .int a, .int b] (some (1 : Int)) none = [.int l, .int t, .int a, .int b] := by
      unfold cutD
      have : HT.sIx 5 0 (some (1 : Int)) = 1 := HT.sIx_nat 5 0 1
      simp [this, HT.sIx_none]
    rw [sq_f (S1 := S) (by simp [x0, e1, Deed.isTurn]), sq_f (S1 := S) (by simp [x0, e2', Deed.isMirror]), sq_f (S1 := S) (by simp [x0, e3, Deed.isHalve]), sq_t (S1 := S) (by simp [x0, e4, Deed.isCut])]
    simp only [mvS]
    have hq : sAsg (gT 4 (gsC (gN 4) (gsC (gN 5) (gsC (gN 3) (gsC (gN 2) gs0))))) (eSlc (eVar 1) (oSome (eC (.int 1))) oNone) [some (gridI s g), some (Deed.cut l t a b).d, none, none, none, none, none, none, none, none] S = .nx [some (gridI s g), some (Deed.cut l t a b).d, some (.int b), some (.int a), some (.int l), some (.int t), none, none, none, none] S := by
      simp [sAsg, Deed.d, q, gT, gsC, gs0, gN]
    by_cases c : l + a ≤ s.1 ∧ t + b ≤ s.2
    · rw [if_pos c]
      have c1 : ¬ (s.1 : Int) < (l : Int) + (a : Int) := by omega
      have c2 : ¬ (s.2 : Int) < (t : Int) + (b : Int) := by omega
      rw [sq_ret (d := gridI (a, b) fun p => g (t + p.1, l + p.2)) (S1 := S)]
      · rfl
      rw [sq_nx hq, sq_f (S1 := S) (by simp [gridI, r0, gl, c1, c2])]
      refine s_ret ?_
      rw [eCall, aCons, comp_rt (S1 := S) (n := b) (φ := fun j => .tup (tb a fun k => .int (g (t + j, l + k))))]
      · simp [gridI, gridD]
      · simp
      · omega
      · intro j hj
        rw [eCall, aCons, comp_rt (S1 := S) (n := a) (φ := fun k => .int (g (t + j, l + k)))]
        · simp
        · simp [wipeF]
        · omega
        · intro k hk
          have r1 := g_row (S := S) (s := s) (f := fun p => .int (g p)) (i := (t : Int) + (j : Int)) (j := t + j) (by omega) (by omega)
          have r2 := t_cell (S := S) (n := s.1) (f := fun k => .int (g (t + j, k))) (i := (l : Int) + (k : Int)) (j := l + k) (by omega) (by omega)
          simp [wipeF, gridI, r1, r2]
    · rw [if_neg c]
      have hc : sIf (tOrM (tVal (e2 gtD (e2 addD (eVar 4) (eVar 3)) (eCall lenD (aCons (e2 ixD (eVar 0) (eC (.int 0))) aNil)))) (tVal (e2 gtD (e2 addD (eVar 5) (eVar 2)) (eCall lenD (aCons (eVar 0) aNil))))) (sRet (eC .non)) sNil [some (gridI s g), some (Deed.cut l t a b).d, some (.int b), some (.int a), some (.int l), some (.int t), none, none, none, none] S = .ret .non S := by
        by_cases c1 : l + a ≤ s.1
        · have c1' : ¬ (s.1 : Int) < (l : Int) + (a : Int) := by omega
          have c2' : (s.2 : Int) < (t : Int) + (b : Int) := by omega
          simp [sIf, gridI, r0, gl, c1', c2', sRet]
        · have c1' : (s.1 : Int) < (l : Int) + (a : Int) := by omega
          simp [sIf, gridI, r0, gl, c1', sRet]
      rw [sq_ret (d := .non) (S1 := S) (by rw [sq_nx hq, sq_ret hc])]
      rfl
noncomputable abbrev lp_done : MS := sIf (tVal (e2 (isnD true) (eVar 0) (eC .non))) (sSet 0 (eCall F_law_one (aCons (eVar 0) (aCons (eVar 2) aNil)))) sNil
def optD : Option ((Nat × Nat) × (Nat × Nat → Int)) → D
  | none => .non
  | some (s, g) => gridI s g
theorem loop_none {it : Its} (hi : it.guard = none) {Z : Option D} (S : Sto) : ∀ (xs : List D) (o2 : Option D), ∃ a, loopF it (gN 2) lp_done xs [some .non, Z, o2] S = .nx [some .non, Z, a] S
  | [], o2 => ⟨o2, by simp only [loopF, if_pos (show okG it S by unfold okG; rw [hi]; trivial)]⟩
  | x :: xs, o2 => by
    obtain ⟨a, ih⟩ := loop_none hi (Z := Z) S xs (some x)
    refine ⟨a, ?_⟩
    simp only [loopF, if_pos (show okG it S by unfold okG; rw [hi]; trivial), gN, List.set_cons_succ, List.set_cons_zero]
    simp [lp_done, sIf, isnD, sNil, ih]
theorem loop_done {it : Its} (hi : it.guard = none) {Z : Option D} (S : Sto) : ∀ (ds : List Deed) (s : Nat × Nat) (g : Nat × Nat → Int) (o2 : Option D), Sz s → ds.all okDeed = true →
    ∃ a, loopF it (gN 2) lp_done (ds.map Deed.d) [some (gridI s g), Z, o2] S = .nx [some (optD ((szs ds s).map fun s' => (s', fun p => lgs ds (g (pos ds s p))))), Z, a] S
  | [], s, g, o2, hs, hd => ⟨o2, by simp only [List.map_nil, loopF, szs, lgs, pos, if_pos (show okG it S by unfold okG; rw [hi]; trivial)]; rfl⟩
  | d :: ds, s, g, o2, hs, hd => by
    simp only [List.all_cons, Bool.and_eq_true] at hd
    have ho : okG it S := by unfold okG; rw [hi]; trivial
    have h1 := H_one (g := g) d hs S
    simp only [List.map_cons, loopF, if_pos ho, gN, List.set_cons_succ, List.set_cons_zero]
    have hn : isnD true (gridI s g) .non S = .ok (.bl true) S := rfl
    cases e1 : mvS d s with
    | none =>
      rw [e1] at h1
      obtain ⟨a, ih⟩ := loop_none hi (Z := Z) S (ds.map Deed.d) (some d.d)
      refine ⟨a, ?_⟩
      simp [sIf, hn, sSet, h1, ih, szs, e1, optD]
    | some s1 =>
      rw [e1] at h1
      obtain ⟨a, ih⟩ := loop_done hi (Z := Z) S ds s1 (fun p => lgt d (g (mvP d s p))) (some d.d) (hs.mv hd.1 e1) hd.2
      refine ⟨a, ?_⟩
      simp [sIf, hn, sSet, h1, ih, szs, e1, lgs, pos]
theorem H_done {ds : List Deed} {s : Nat × Nat} {g : Nat × Nat → Int} {Z : D} (hZ : Z = .tup (ds.map Deed.d) ∨ Z = .lst (ds.map Deed.d)) (hs : Sz s) (hd : ds.all okDeed = true) (S : Sto) : F_law_done [gridI s g, Z] S = .ok (optD ((szs ds s).map fun s' => (s', fun p => lgs ds (g (pos ds s p))))) S := by
  have e : F_law_done [gridI s g, Z] S = bodyRes (b_law_done [some (gridI s g), some Z, none] S) := rfl
  rw [e]
  unfold b_law_done
  obtain ⟨a, h⟩ := loop_done (it := ⟨ds.map Deed.d, none⟩) rfl (Z := some Z) S ds s g none hs hd
  have h' : sFor (iSeq (eVar 1)) (gN 2) lp_done [some (gridI s g), some Z, none] S = .nx [some (optD ((szs ds s).map fun s' => (s', fun p => lgs ds (g (pos ds s p))))), some Z, a] S := by
    have : iSeq (eVar 1) [some (gridI s g), some Z, none] S = .ok ⟨ds.map Deed.d, none⟩ S := by rcases hZ with rfl | rfl <;> rfl
    simp only [sFor, this, Res.then_ok]
    exact h
  rw [sq_nx h']
  rw [s_ret (S1 := S) (d := optD ((szs ds s).map fun s' => (s', fun p => lgs ds (g (pos ds s p))))) rfl]
  rfl
theorem in_lights {neg : Bool} {S : Sto} (d : Deed) : inD neg (.str d.nm) (.tup [.str "light", .str "invert"]) S = .ok (.bl (if neg then !d.isL else d.isL)) S := by
  have h1 : (("light" : Str) == d.nm) = d.isLight := (BEq.comm).trans (nm_light d)
  have h2 : (("invert" : Str) == d.nm) = d.isInvert := (BEq.comm).trans (nm_invert d)
  simp [inD, dP, toP, toPs, d.ok, ok_light, ok_invert, PyData.eqv, h1, h2, Deed.isL]
theorem map_filter_d (p : Deed → Bool) (q : D → Bool) (h : ∀ d : Deed, q d.d = p d) : ∀ ds : List Deed, (ds.map Deed.d).filter q = (ds.filter p).map Deed.d
  | [] => rfl
  | d :: ds => by
    cases e : p d with
    | true => rw [List.map_cons, List.filter_cons_of_pos (by rw [h, e]), List.filter_cons_of_pos e, List.map_cons, map_filter_d p q h ds]
    | false => rw [List.map_cons, List.filter_cons_of_neg (by rw [h, e]; simp), List.filter_cons_of_neg (by rw [e]; simp), map_filter_d p q h ds]
def dL : D → Bool
  | .tup (.str x :: _) => x == ("light" : Str) || x == ("invert" : Str)
  | _ => false
theorem dL_d (d : Deed) : dL d.d = d.isL := by
  have h1 := nm_light d
  have h2 := nm_invert d
  cases d <;> simp only [Deed.d, dL, Deed.isL, Deed.nm] at h1 h2 ⊢ <;> rw [h1, h2]
theorem comp_lights {neg : Bool} {vs : List Nat} {i : Nat} {f : ME} {fr : Fr} {S : Sto} {ds : List Deed} (hl : ds.length ≤ 1000) (hf : f fr S = .ok (deedsD ds) S) (hi : i < (wipeF fr vs).length) :
    eComp vs (iSeq f) (gN i) (tVal (e2 (inD neg) (e2 ixD (eVar i) (eC (.int 0))) (eTup (aCons (eC (.str "light")) (aCons (eC (.str "invert")) aNil))))) (eVar i) fr S = .ok (.lst ((ds.filter fun d => if neg then !d.isL else d.isL).map Deed.d)) S := by
  rw [eComp_filter (it := ⟨ds.map Deed.d, none⟩) (S1 := S) (by simp [iSeq, hf, seqIts]) trivial (by simp; unfold sz; omega) (fun d => if neg then !dL d else dL d) (fun d => d)]
  · congr 2
    rw [List.map_id', map_filter_d (fun d => if neg then !d.isL else d.isL)]
    intro d
    simp only [dL_d]
  · intro d hd
    obtain ⟨d0, _, rfl⟩ := List.mem_map.1 hd
    refine ⟨_, rfl, ?_, fun _ => ?_⟩
    · have hx : ((wipeF fr vs).set i (some d0.d))[i]? = some (some d0.d) := by simp [hi]
      simp [hx, d_ix0, in_lights, dL_d]
    · have hx : ((wipeF fr vs).set i (some d0.d))[i]? = some (some d0.d) := by simp [hi]
      simp [hx]
def codeV (p : Nat × Nat) : Int := 100 * p.1 + p.2
theorem H_map {ds : List Deed} {s : Nat × Nat} (hs : Sz s) (hd : ds.all okDeed = true) (hl : ds.length ≤ 1000) (S : Sto) : F_law_map [.int s.1, .int s.2, deedsD ds] S = .ok (optD ((szs ds s).map fun s' => (s', fun p => codeV (pos ds s p)))) S := by
  have e : F_law_map [.int s.1, .int s.2, deedsD ds] S = bodyRes (b_law_map [some (.int s.1), some (.int s.2), some (deedsD ds), none, none, none, none] S) := rfl
  rw [e]
  unfold b_law_map
  have hc : eCall tupleD (aCons (eComp [4] (iRng1' (aCons (eVar 1) aNil)) (gN 4) tTrue (eCall tupleD (aCons (eComp [6] (iRng1' (aCons (eVar 0) aNil)) (gN 6) tTrue (e2 addD (e2 mulD (eC (.int 100)) (eVar 4)) (eVar 6))) aNil))) aNil) [some (.int s.1), some (.int s.2), some (deedsD ds), none, none, none, none] S = .ok (gridI s codeV) S := by
    unfold Sz at hs
    rw [eCall, aCons, comp_rt (S1 := S) (n := s.2) (φ := fun j => .tup (tb s.1 fun k => .int (codeV (j, k))))]
    · simp [gridI, gridD]
    · simp
    · omega
    · intro j hj
      rw [eCall, aCons, comp_rt (S1 := S) (n := s.1) (φ := fun k => .int (codeV (j, k)))]
      · simp
      · simp [wipeF]
      · omega
      · intro k hk
        have m1 := mul_small (S := S) (i := 100) (j := (j : Int)) (.inl (small_of (by omega) (by omega)))
        simp [wipeF, m1, codeV]
  rw [sq_set hc]
  simp only [List.set_cons_succ, List.set_cons_zero]
  have hc2 := comp_lights (neg := true) (vs := [5]) (i := 5) (f := eVar 2) (fr := [some (.int s.1), some (.int s.2), some (deedsD ds), some (gridI s codeV), none, none, none]) (S := S) (ds := ds) hl rfl (by simp [wipeF])
  simp only [if_true] at hc2
  have hd' : (ds.filter fun d => !d.isL).all okDeed = true := by
    rw [List.all_eq_true] at hd ⊢
    intro x hx
    exact hd x (List.mem_filter.1 hx).1
  have h3 := H_done (s := s) (g := codeV) (ds := ds.filter fun d => !d.isL) (.inr rfl) hs hd' S
  rw [s_ret (S1 := S) (d := optD ((szs ds s).map fun s' => (s', fun p => codeV (pos ds s p))))]
  · rfl
  · simp [hc2, h3, szs_mv, pos_mv, lgs_mv]
end Py
set_option maxRecDepth 100000
set_option maxHeartbeats 1000000
namespace Py
open PySem PySem.Spec PyProof.Rows L2
/-! ### loops that keep something -/
theorem loop_keep {it : Its} (hi : it.guard = none) {g : MG} {body : MS} {S : Sto} (I : Fr → Prop) : ∀ (xs : List D), (∀ x ∈ xs, ∀ fr, I fr → ∃ fr1 fr', g x fr = some fr1 ∧ body fr1 S = .nx fr' S ∧ I fr') → ∀ fr, I fr → ∃ fr', loopF it g body xs fr S = .nx fr' S ∧ I fr'
  | [], h, fr, hI => ⟨fr, by simp only [loopF, if_pos (show okG it S by unfold okG; rw [hi]; trivial)], hI⟩
  | x :: xs, h, fr, hI => by
    obtain ⟨fr1, fr', h1, h2, h3⟩ := h x (List.mem_cons_self ..) fr hI
    obtain ⟨fr'', h4, h5⟩ := loop_keep hi I xs (fun y hy => h y (List.mem_cons_of_mem _ hy)) fr' h3
    refine ⟨fr'', ?_, h5⟩
    simp only [loopF, if_pos (show okG it S by unfold okG; rw [hi]; trivial), h1, h2, h4]
theorem for_rng_keep {f : MA} {i n : Nat} {body : MS} {S : Sto} {fr : Fr} (I : Fr → Prop) (hf : f fr S = .ok [.int (n : Int)] S) (hn : n ≤ 1000000) (h0 : I fr) (h : ∀ k : Nat, k < n → ∀ fr, I fr → ∃ fr', body (fr.set i (some (.int k))) S = .nx fr' S ∧ I fr') :
    ∃ fr', sFor (iRng1' f) (gN i) body fr S = .nx fr' S ∧ I fr' := by
  have hr := irng hf hn
  obtain ⟨fr', h1, h2⟩ := loop_keep (it := ⟨rngD 0 n, none⟩) rfl (g := gN i) (body := body) (S := S) I (rngD 0 n) (fun x hx fr hI => by
    obtain ⟨k, hk, rfl⟩ := List.mem_map.1 hx
    obtain ⟨fr', a, b⟩ := h k (List.mem_range.1 hk) fr hI
    exact ⟨_, fr', rfl, by simpa using a, b⟩) fr h0
  exact ⟨fr', by simp only [sFor, hr, Res.then_ok]; exact h1, h2⟩
theorem tb_upd {n a : Nat} {f : Nat → D} {x : D} (h : a < n) : cutD (tb n f) none (some (a : Int)) ++ [x] ++ cutD (tb n f) (some ((a : Int) + 1)) none = tb n (fun k => if k = a then x else f k) := by
  have e1 : HT.sIx n n (some (a : Int)) = a := by rw [HT.sIx_nat]; omega
  have e2 : HT.sIx n 0 (some ((a : Int) + 1)) = a + 1 := by
    have := HT.sIx_nat n 0 (a + 1)
    simp only [Int.natCast_add, Int.natCast_one] at this
    rw [this]; omega
  simp only [cutD, tb_len, e1, e2, HT.sIx_none]
  refine tb_ext (by simp; omega) fun k hk hn => ?_
  by_cases c : k = a
  · subst c
    rw [List.getElem_append_left (by simp; omega), List.getElem_append_right (by simp; omega)]
    simp
  · by_cases c2 : k < a
    · rw [List.getElem_append_left (by simp; omega), List.getElem_append_left (by simp; omega)]
      simp [c]
    · rw [List.getElem_append_right (by simp; omega)]
      simp [c]
      congr 1
      omega
theorem add_tup {xs ys : List D} {S : Sto} (h : xs.length + ys.length ≤ 1000000) : addD (.tup xs) (.tup ys) S = .ok (.tup (xs ++ ys)) S := by
  have h' : xs.length + ys.length ≤ sz := h
  simp only [addD, h', if_true]
theorem add_deeds {as bs : List Deed} {S : Sto} (h : as.length + bs.length ≤ 1000) : addD (deedsD as) (deedsD bs) S = .ok (deedsD (as ++ bs)) S := by
  rw [add_tup (by simp; omega), ← List.map_append]
theorem cut_len {xs : List D} {lo hi : Option Int} : (cutD xs lo hi).length ≤ xs.length := by
  unfold cutD
  simp
  omega
theorem upd_tup {n a : Nat} {f : Nat → D} {x : D} {S : Sto} (h : a < n) (hn : n ≤ 1000) : (addD (.tup (cutD (tb n f) none (some (a : Int)))) (.tup [x]) S).bind (fun y S => addD y (.tup (cutD (tb n f) (some ((a : Int) + 1)) none)) S) = .ok (.tup (tb n fun k => if k = a then x else f k)) S := by
  have l1 := cut_len (xs := tb n f) (lo := none) (hi := some (a : Int))
  have l2 := cut_len (xs := tb n f) (lo := some ((a : Int) + 1)) (hi := none)
  rw [tb_len] at l1 l2
  rw [add_tup (by simp; omega), Res.bind_ok, add_tup (by simp; omega), tb_upd h]
theorem all_app {as bs : List Deed} (h1 : as.all okDeed = true) (h2 : bs.all okDeed = true) : (as ++ bs).all okDeed = true := by rw [List.all_append, h1, h2]; rfl
theorem all_filter {p : Deed → Bool} {as : List Deed} (h1 : as.all okDeed = true) : (as.filter p).all okDeed = true := by
  rw [List.all_eq_true] at h1 ⊢
  intro x hx
  exact h1 x (List.mem_filter.1 hx).1
theorem filt_sum (p : Deed → Bool) : ∀ ds : List Deed, (ds.filter p).length + (ds.filter fun d => !p d).length = ds.length
  | [] => rfl
  | d :: ds => by
    have ih := filt_sum p ds
    cases e : p d <;> simp [e] <;> omega
end Py
set_option maxRecDepth 100000
set_option maxHeartbeats 1000000
namespace Py
open PySem PySem.Spec PyProof.Rows L2
/-! ### what is no deed -/
theorem nd_no {x : D} {S : Sto} (h : Ty S x) (ht : isT x = false) : F_is_deed [x] S = .ok (.bl false) S := by
  have e : F_is_deed [x] S = bodyRes (b_is_deed [some x, none] S) := rfl
  rw [e]
  unfold b_is_deed
  have h1 := isi_tup h
  rw [ht] at h1
  rw [sq_t (S1 := S) (by simp [h1]), sq_r (S1 := S) (d := .bl false) rfl]
  rfl
theorem nd_nil {S : Sto} : F_is_deed [.tup []] S = .ok (.bl false) S := by
  have e : F_is_deed [.tup []] S = bodyRes (b_is_deed [some (.tup []), none] S) := rfl
  rw [e]
  unfold b_is_deed
  have h1 : isiD [.tup [], .ty "tuple"] S = .ok (.bl true) S := isi_tup ty_tup
  rw [sq_t (S1 := S) (by simp [h1]), sq_r (S1 := S) (d := .bl false) rfl]
  rfl
theorem ix0 {x : D} {ps : List D} {S : Sto} : ixD (.tup (x :: ps)) (.int 0) S = .ok x S := ix_tup (ds := x :: ps) (j := 0) rfl (by simp)
def lightB : List D → Bool
  | [p] => isW (-9) 9 p
  | _ => false
theorem nd_light {ps : List D} {S : Sto} (hp : ∀ p ∈ ps, Ty S p) : F_is_deed [.tup (.str "light" :: ps)] S = .ok (.bl (lightB ps)) S := by
  have e : F_is_deed [.tup (.str "light" :: ps)] S = bodyRes (b_is_deed [some (.tup (.str "light" :: ps)), none] S) := rfl
  rw [e]
  unfold b_is_deed
  have h1 : isiD [.tup (.str "light" :: ps), .ty "tuple"] S = .ok (.bl true) S := isi_tup ty_tup
  have h2 := s_isS "light" S
  have x0 := ix0 (x := .str "light") (ps := ps) (S := S)
  have e1 : eqD false (.str "light") (.str "light") S = .ok (.bl true) S := eqD_str ok_light ok_light (by decide +kernel)
  have n0 : ¬ ((ps.length : Int) + 1 = 0) := by omega
  rw [sq_f (S1 := S) (by simp [h1, x0, h2, n0]), sq_t (S1 := S) (by simp [x0, e1])]
  rw [sq_r (S1 := S) (d := .bl (lightB ps))]
  · rfl
  · match ps, hp with
    | [], _ => simp [lightB]
    | [p], hp =>
      have i1 : ixD (.tup [.str "light", p]) (.int 1) S = .ok p S := ix_tup (ds := [.str "light", p]) (j := 1) rfl (by simp)
      simp [lightB, i1, F_whole (S := S) (lo := -9) (hi := 9) (hp p (List.mem_cons_self ..))]
    | _ :: _ :: r, _ =>
      have : ¬ ((r.length : Int) + 1 + 1 + 1 = 2) := by omega
      simp [this, lightB]
theorem nd_plain {x : Str} {ps : List D} {S : Sto} {b : Bool} (hx : PyData.strOk x = true) (h1 : (x == ("light" : Str)) = false) (h2 : (x == ("cut" : Str)) = false) (hi : inD false (.tup (.str x :: ps)) g_PLAIN S = .ok (.bl b) S) : F_is_deed [.tup (.str x :: ps)] S = .ok (.bl b) S := by
  have e : F_is_deed [.tup (.str x :: ps)] S = bodyRes (b_is_deed [some (.tup (.str x :: ps)), none] S) := rfl
  rw [e]
  unfold b_is_deed
  have t1 : isiD [.tup (.str x :: ps), .ty "tuple"] S = .ok (.bl true) S := isi_tup ty_tup
  have t2 := s_isS x S
  have x0 := ix0 (x := .str x) (ps := ps) (S := S)
  have e1 : eqD false (.str x) (.str "light") S = .ok (.bl false) S := eqD_str hx ok_light h1
  have e2' : eqD true (.str x) (.str "cut") S = .ok (.bl true) S := neD_str hx ok_cut h2
  have n0 : ¬ ((ps.length : Int) + 1 = 0) := by omega
  rw [sq_f (S1 := S) (by simp [t1, x0, t2, n0]), sq_f (S1 := S) (by simp [x0, e1]), sq_t (S1 := S) (by simp [x0, e2']), sq_r (S1 := S) (d := .bl b) (by simp [hi])]
  rfl
theorem nd_cutN {ps : List D} {S : Sto} (hl : ps.length ≠ 4) : F_is_deed [.tup (.str "cut" :: ps)] S = .ok (.bl false) S := by
  have e : F_is_deed [.tup (.str "cut" :: ps)] S = bodyRes (b_is_deed [some (.tup (.str "cut" :: ps)), none] S) := rfl
  rw [e]
  unfold b_is_deed
  have h1 : isiD [.tup (.str "cut" :: ps), .ty "tuple"] S = .ok (.bl true) S := isi_tup ty_tup
  have h2 := s_isS "cut" S
  have x0 := ix0 (x := .str "cut") (ps := ps) (S := S)
  have e1 : eqD false (.str "cut") (.str "light") S = .ok (.bl false) S := eqD_str ok_cut ok_light (by decide +kernel)
  have e2' : eqD true (.str "cut") (.str "cut") S = .ok (.bl false) S := neD_str (b := true) ok_cut ok_cut (by decide +kernel)
  have n0 : ¬ ((ps.length : Int) + 1 = 0) := by omega
  have n5 : ¬ ((ps.length : Int) + 1 = 5) := by omega
  rw [sq_f (S1 := S) (by simp [h1, x0, h2, n0]), sq_f (S1 := S) (by simp [x0, e1]), sq_f (S1 := S) (by simp [x0, e2']), sq_t (S1 := S) (by simp [n5]), sq_r (S1 := S) (d := .bl false) rfl]
  rfl
theorem nd_cut {a b c d : D} {S : Sto} (ha : Ty S a) (hb : Ty S b) (hc : Ty S c) (hd : Ty S d) : F_is_deed [.tup [.str "cut", a, b, c, d]] S = .ok (.bl (isW 0 7 a && isW 0 7 b && (isW 1 8 c && isW 1 8 d))) S := by
  have e : F_is_deed [.tup [.str "cut", a, b, c, d]] S = bodyRes (b_is_deed [some (.tup [.str "cut", a, b, c, d]), none] S) := rfl
  rw [e]
  unfold b_is_deed
  have h1 : isiD [.tup [.str "cut", a, b, c, d], .ty "tuple"] S = .ok (.bl true) S := isi_tup ty_tup
  have h2 := s_isS "cut" S
  have x0 := ix0 (x := .str "cut") (ps := [a, b, c, d]) (S := S)
  have e1 : eqD false (.str "cut") (.str "light") S = .ok (.bl false) S := eqD_str ok_cut ok_light (by decide +kernel)
  have e2' : eqD true (.str "cut") (.str "cut") S = .ok (.bl false) S := neD_str (b := true) ok_cut ok_cut (by decide +kernel)
  have q1 : cutD [D.str "cut", a, b, c, d] (some (1 : Int)) (some 3) = [a, b] := by
    unfold cutD
    have a : HT.sIx 5 0 (some (1 : Int)) = 1 := HT.sIx_nat 5 0 1
    have b : HT.sIx 5 5 (some (3 : Int)) = 3 := HT.sIx_nat 5 5 3
    simp [a, b]
  have q2 : cutD [D.str "cut", a, b, c, d] (some (3 : Int)) none = [c, d] := by
    unfold cutD
    have a : HT.sIx 5 0 (some (3 : Int)) = 3 := HT.sIx_nat 5 0 3
    simp [a, HT.sIx_none]
  rw [sq_f (S1 := S) (by simp [h1, x0, h2]), sq_f (S1 := S) (by simp [x0, e1]), sq_f (S1 := S) (by simp [x0, e2'])]
  have c1 : eComp [1] (iSeq (eSlc (eVar 0) (oSome (eC (.int 1))) (oSome (eC (.int 3))))) (gN 1) tTrue (eCall F_is_whole (aCons (eVar 1) (aCons (eC (.int 0)) (aCons (e2 subD (eC (.int 8)) (eC (.int 1))) aNil)))) [some (.tup [.str "cut", a, b, c, d]), none] S = .ok (.lst [.bl (isW 0 7 a), .bl (isW 0 7 b)]) S := by
    rw [comp_seq (S1 := S) (ds := [a, b]) (φ := fun d => .bl (isW 0 7 d))]
    · rfl
    · left; simp [q1]
    · simp
    · intro x hx
      have hT : Ty S x := by simp at hx; rcases hx with rfl | rfl <;> assumption
      simp [wipeF, F_whole (S := S) (lo := 0) (hi := 7) hT]
  have c2 : eComp [1] (iSeq (eSlc (eVar 0) (oSome (eC (.int 3))) oNone)) (gN 1) tTrue (eCall F_is_whole (aCons (eVar 1) (aCons (eC (.int 1)) (aCons (eC (.int 8)) aNil)))) [some (.tup [.str "cut", a, b, c, d]), none] S = .ok (.lst [.bl (isW 1 8 c), .bl (isW 1 8 d)]) S := by
    rw [comp_seq (S1 := S) (ds := [c, d]) (φ := fun d => .bl (isW 1 8 d))]
    · rfl
    · left; simp [q2]
    · simp
    · intro x hx
      have hT : Ty S x := by simp at hx; rcases hx with rfl | rfl <;> assumption
      simp [wipeF, F_whole (S := S) (lo := 1) (hi := 8) hT]
  cases b1 : (isW 0 7 a && isW 0 7 b) with
  | true => rw [sq_f (S1 := S) (by simp [c1, all2]; simpa using b1), s_ret (S1 := S) (d := .bl (isW 1 8 c && isW 1 8 d)) (by simp only [ap_call, ap_cons, c2, Res.bind_ok, ap_nil, all2])]; rfl
  | false => rw [sq_t (S1 := S) (by simp [c1, all2]; cases hA : isW 0 7 a <;> simp_all), sq_r (S1 := S) (d := .bl false) rfl]; rfl
/-! ### are_deeds of anything -/
theorem nds_no {x : D} {S : Sto} (h : Ty S x) (ht : isT x = false) : F_are_deeds [x] S = .ok (.bl false) S := by
  have e : F_are_deeds [x] S = bodyRes (b_are_deeds [some x, none] S) := rfl
  rw [e]
  unfold b_are_deeds
  have h1 := isi_tup h
  rw [ht] at h1
  rw [s_ret (S1 := S) (d := .bl false) (by simp [h1])]
  rfl
theorem nds_tup {ds : List D} {S : Sto} (hl : ds.length ≤ 1000) (q : D → Bool) (h : ds.length ≤ 20 → ∀ d ∈ ds, F_is_deed [d] S = .ok (.bl (q d)) S) : F_are_deeds [.tup ds] S = .ok (.bl (decide (ds.length ≤ 20) && ds.all q)) S := by
  have e : F_are_deeds [.tup ds] S = bodyRes (b_are_deeds [some (.tup ds), none] S) := rfl
  rw [e]
  unfold b_are_deeds
  have h1 : isiD [.tup ds, .ty "tuple"] S = .ok (.bl true) S := isi_tup ty_tup
  by_cases k : ds.length ≤ 20
  · have k' : (ds.length : Int) ≤ 20 := by omega
    have c : eComp [1] (iSeq (eVar 0)) (gN 1) tTrue (eCall F_is_deed (aCons (eVar 1) aNil)) [some (.tup ds), none] S = .ok (.lst (ds.map fun d => .bl (q d))) S := by
      rw [comp_seq (S1 := S) (ds := ds) (φ := fun d => .bl (q d))]
      · left; simp
      · unfold sz; omega
      · intro d hd; simp [wipeF, h k d hd]
    rw [s_ret (S1 := S) (d := .bl (ds.all q)) (by simp [h1, k', c, allD_map])]
    simp [k]
  · have k' : ¬ (ds.length : Int) ≤ 20 := by omega
    rw [s_ret (S1 := S) (d := .bl false) (by simp [h1, k'])]
    simp [k]
theorem nds_need {x : D} {S : Sto} (h : F_are_deeds [x] S = .ok (.bl false) S) : F_need_deeds [x] S = .exc "NoDeeds" S := by
  have e : F_need_deeds [x] S = bodyRes (b_need_deeds [some x] S) := rfl
  rw [e]
  unfold b_need_deeds
  simp [sIf, h, sRaise]
theorem nds_one {x : D} {S : Sto} (h : F_is_deed [x] S = .ok (.bl false) S) : F_need_deeds [.tup [x]] S = .exc "NoDeeds" S := by
  refine nds_need ?_
  rw [nds_tup (by simp) (fun _ => false) (fun _ d hd => by simp at hd; subst hd; exact h)]
  simp
/-! ### done, size where they refuse -/
theorem done_nopic {x y : D} {S : Sto} (h : Ty3 S x) (hp : isPic x = false) : F_done [x, y] S = .exc "NoPicture" S := by
  have e : F_done [x, y] S = bodyRes (b_done [some x, some y] S) := rfl
  rw [e]
  unfold b_done
  have := F_npic h
  rw [hp] at this
  rw [sq_exx (c := "NoPicture") (S1 := S) (by simp [this])]
  rfl
theorem done_nodeeds {s : Nat × Nat} {g : Nat × Nat → Int} {y : D} {S : Sto} (hs : Sz s) (hc : Cells s g) (h : F_need_deeds [y] S = .exc "NoDeeds" S) : F_done [gridI s g, y] S = .exc "NoDeeds" S := by
  have e : F_done [gridI s g, y] S = bodyRes (b_done [some (gridI s g), some y] S) := rfl
  rw [e]
  unfold b_done
  have h1 := F_npic (S := S) (ty3_grid (s := s) (g := g))
  rw [isPic_grid hs hc, if_pos rfl] at h1
  rw [sq_ex (S1 := S) (d := .non) (by simp [h1]), sq_exx (c := "NoDeeds") (S1 := S) (by simp [h])]
  rfl
theorem size_nosize {x y d : D} {S : Sto} (hx : Ty S x) (hy : Ty S y) (h : (isW 1 8 x && isW 1 8 y) = false) : F_size [x, y, d] S = .exc "NoSize" S := by
  have e : F_size [x, y, d] S = bodyRes (b_size [some x, some y, some d, none] S) := rfl
  rw [e]
  unfold b_size
  have h1 := F_nsize hx hy
  rw [h] at h1
  rw [sq_exx (c := "NoSize") (S1 := S) (by simp; exact h1)]
  rfl
theorem isW_size {n : Nat} (h0 : 0 < n) (h8 : n ≤ 8) : isW 1 8 (.int n) = true := by simp [isW]; omega
theorem size_nodeeds {s : Nat × Nat} {d : D} {S : Sto} (hs : Sz s) (h : F_need_deeds [d] S = .exc "NoDeeds" S) : F_size [.int s.1, .int s.2, d] S = .exc "NoDeeds" S := by
  have e : F_size [.int s.1, .int s.2, d] S = bodyRes (b_size [some (.int s.1), some (.int s.2), some d, none] S) := rfl
  rw [e]
  unfold b_size
  have h1 := F_nsize (S := S) (x := .int s.1) (y := .int s.2) ty_int ty_int
  rw [isW_size hs.1 hs.2.2.1, isW_size hs.2.1 hs.2.2.2] at h1
  simp at h1
  rw [sq_ex (S1 := S) (d := .non) (by simp [h1]), sq_exx (c := "NoDeeds") (S1 := S) (by simp [h])]
  rfl
/-! ### four turns -/
theorem szs_turn4 (s : Nat × Nat) : szs [.turn, .turn, .turn, .turn] s = some s := rfl
theorem pos_turn4 {s p : Nat × Nat} (h : InS s p) : pos [.turn, .turn, .turn, .turn] s p = p := by
  unfold InS at h
  simp only [pos, mvP, mvS, Option.getD_some]
  refine Prod.ext ?_ ?_
  · simp; omega
  · simp; omega
def turns (n : Nat) : List Deed := List.replicate n .turn
theorem turns20 : turns 20 = [.turn, .turn, .turn, .turn] ++ ([.turn, .turn, .turn, .turn] ++ ([.turn, .turn, .turn, .turn] ++ ([.turn, .turn, .turn, .turn] ++ [.turn, .turn, .turn, .turn]))) := rfl
theorem szs_turns20 (s : Nat × Nat) : szs (turns 20) s = some s := rfl
theorem pos_turns20 {s p : Nat × Nat} (h : InS s p) : pos (turns 20) s p = p := by
  rw [turns20, pos_app _ _ s s _ rfl, pos_app _ _ s s _ rfl, pos_app _ _ s s _ rfl, pos_app _ _ s s _ rfl, pos_turn4 h, pos_turn4 h, pos_turn4 h, pos_turn4 h, pos_turn4 h]
theorem lgs_turns20 (x : Int) : lgs (turns 20) x = x := rfl
end Py
set_option maxRecDepth 100000
set_option maxHeartbeats 1000000
namespace Py
open PySem PySem.Spec PyProof.Rows L2
/-! ### table_of, same -/
noncomputable abbrev lp_tab : MS := sSet 1 (eCall F_lit (aCons (eVar 1) (aCons (eVar 2) aNil)))
theorem loop_tab {it : Its} (hi : it.guard = none) {Z : Option D} (S : Sto) : ∀ (ds : List Deed) (g : Nat → Int) (o2 : Option D),
    ∃ a, loopF it (gN 2) lp_tab (ds.map Deed.d) [Z, some (.tup (tb 10 fun k => .int (g k))), o2] S = .nx [Z, some (.tup (tb 10 fun k => .int (lgs ds (g k)))), a] S
  | [], g, o2 => ⟨o2, by simp only [List.map_nil, loopF, lgs, if_pos (show okG it S by unfold okG; rw [hi]; trivial)]⟩
  | d :: ds, g, o2 => by
    obtain ⟨a, ih⟩ := loop_tab hi (Z := Z) S ds (fun k => lgt d (g k)) (some d.d)
    refine ⟨a, ?_⟩
    have h1 := G_lit (n := 10) (g := g) d (by decide) S
    simp only [List.map_cons, loopF, if_pos (show okG it S by unfold okG; rw [hi]; trivial), gN, List.set_cons_succ, List.set_cons_zero]
    simp [lp_tab, sSet, h1, ih, lgs]
theorem rng_tb (n : Nat) : rngD 0 n = tb n fun k => .int k := by
  unfold rngD tb
  apply List.map_congr_left
  intro a _
  simp
def tabD (ds : List Deed) : List D := tb 10 fun k => .int (lgs ds k)
theorem G_table (ds : List Deed) (S : Sto) : F_table_of [deedsD ds] S = .ok (.tup (tabD ds)) S := by
  have e : F_table_of [deedsD ds] S = bodyRes (b_table_of [some (deedsD ds), none, none] S) := rfl
  rw [e]
  unfold b_table_of
  rw [sq_set (S1 := S) (d := .tup (tb 10 fun k => .int (k : Int))) (by
    simp only [eTupR, r1, ap_2, ap_c, ap_add, Res.bind_ok]
    rw [if_pos (by unfold rngOk; omega), ← rng_tb]
    rfl)]
  simp only [List.set_cons_succ, List.set_cons_zero]
  obtain ⟨a, h⟩ := loop_tab (it := ⟨ds.map Deed.d, none⟩) rfl (Z := some (deedsD ds)) S ds (fun k => (k : Int)) none
  have h' : sFor (iSeq (eVar 0)) (gN 2) lp_tab [some (deedsD ds), some (.tup (tb 10 fun k => .int (k : Int))), none] S = _ := h
  rw [sq_nx h', s_ret (S1 := S) (d := .tup (tabD ds)) rfl]
  rfl
theorem pl_tab (n : Nat) (ds : List Deed) : pl (n + 2) (.tup (tabD ds)) = true := pl_tb fun k => pl_int _ _
theorem pl_tabL (n : Nat) (ds : List Deed) : pl (n + 2) (.lst (tabD ds)) = true := by
  simp only [pl, tabD, tb_filter_all]
  simp
abbrev mapG (ds : List Deed) (s s' : Nat × Nat) : D := gridD s' fun p => ptD (pos ds s p)
theorem pl_pt (n : Nat) (p : Nat × Nat) : pl (n + 2) (ptD p) = true := by simp [ptD, pl]
theorem pl_mapG {ds : List Deed} {s s' : Nat × Nat} : pl 12 (mapG ds s s') = true := pl_gridD fun p => pl_pt _ _
open Classical in
theorem G_same {as bs : List Deed} {s s1 s2 : Nat × Nat} (hs : Sz s) (oa : as.all okDeed = true) (ob : bs.all okDeed = true) (la : as.length ≤ 20) (lb : bs.length ≤ 20) (ea : szs as s = some s1) (eb : szs bs s = some s2) (S : Sto) :
    F_same [.int s.1, .int s.2, deedsD as, deedsD bs] S = .ok (.bl (decide (mapG as s s1 = mapG bs s s2 ∧ tabD as = tabD bs))) S := by
  have e : F_same [.int s.1, .int s.2, deedsD as, deedsD bs] S = bodyRes (b_same [some (.int s.1), some (.int s.2), some (deedsD as), some (deedsD bs)] S) := rfl
  rw [e]
  unfold b_same
  have h1 := F_nsize (S := S) (x := .int s.1) (y := .int s.2) ty_int ty_int
  rw [isW_size hs.1 hs.2.2.1, isW_size hs.2.1 hs.2.2.2] at h1
  simp at h1
  have m1 := G_map_of hs oa S
  have m2 := G_map_of hs ob S
  rw [ea] at m1
  rw [eb] at m2
  simp only at m1 m2
  rw [sq_ex (S1 := S) (d := .non) (by simp [h1]), sq_ex (S1 := S) (d := .non) (by simp [F_ndeeds oa la S]), sq_ex (S1 := S) (d := .non) (by simp [F_ndeeds ob lb S])]
  by_cases c : mapG as s s1 = mapG bs s s2
  · have ne : eqD true (mapG as s s1) (mapG bs s s2) S = .ok (.bl false) S := by rw [eqD_pl pl_mapG pl_mapG]; simp [c]
    have eq : eqD false (.tup (tabD as)) (.tup (tabD bs)) S = .ok (.bl (decide (tabD as = tabD bs))) S := by rw [eqD_pl (pl_tab _ _) (pl_tab _ _)]; simp
    rw [sq_f (S1 := S) (by simp [m1, m2, ne]), s_ret (S1 := S) (d := .bl (decide (tabD as = tabD bs))) (by simp [G_table, eq])]
    simp [c]
  · have ne : eqD true (mapG as s s1) (mapG bs s s2) S = .ok (.bl true) S := by rw [eqD_pl pl_mapG pl_mapG]; simp [c]
    rw [sq_t (S1 := S) (by simp [m1, m2, ne]), sq_r (S1 := S) (d := .bl false) rfl]
    simp [c]
theorem G_sameX {as bs : List Deed} {s s1 : Nat × Nat} (hs : Sz s) (oa : as.all okDeed = true) (ob : bs.all okDeed = true) (la : as.length ≤ 20) (lb : bs.length ≤ 20) (ea : szs as s = some s1) (eb : szs bs s = none) (S : Sto) :
    F_same [.int s.1, .int s.2, deedsD as, deedsD bs] S = .exc "NoCut" S := by
  have e : F_same [.int s.1, .int s.2, deedsD as, deedsD bs] S = bodyRes (b_same [some (.int s.1), some (.int s.2), some (deedsD as), some (deedsD bs)] S) := rfl
  rw [e]
  unfold b_same
  have h1 := F_nsize (S := S) (x := .int s.1) (y := .int s.2) ty_int ty_int
  rw [isW_size hs.1 hs.2.2.1, isW_size hs.2.1 hs.2.2.2] at h1
  simp at h1
  have m1 := G_map_of hs oa S
  have m2 := G_map_of hs ob S
  rw [ea] at m1
  rw [eb] at m2
  simp only at m1 m2
  rw [sq_ex (S1 := S) (d := .non) (by simp [h1]), sq_ex (S1 := S) (d := .non) (by simp [F_ndeeds oa la S]), sq_ex (S1 := S) (d := .non) (by simp [F_ndeeds ob lb S])]
  rw [sq_exc (c := "NoCut") (S1 := S) (by simp [sIf, m1, m2])]
  rfl
theorem same_nosize {x y a b : D} {S : Sto} (hx : Ty S x) (hy : Ty S y) (h : (isW 1 8 x && isW 1 8 y) = false) : F_same [x, y, a, b] S = .exc "NoSize" S := by
  have e : F_same [x, y, a, b] S = bodyRes (b_same [some x, some y, some a, some b] S) := rfl
  rw [e]
  unfold b_same
  have h1 := F_nsize hx hy
  rw [h] at h1
  rw [sq_exx (c := "NoSize") (S1 := S) (by simp; exact h1)]
  rfl
theorem same_nodeeds1 {s : Nat × Nat} {a b : D} {S : Sto} (hs : Sz s) (h : F_need_deeds [a] S = .exc "NoDeeds" S) : F_same [.int s.1, .int s.2, a, b] S = .exc "NoDeeds" S := by
  have e : F_same [.int s.1, .int s.2, a, b] S = bodyRes (b_same [some (.int s.1), some (.int s.2), some a, some b] S) := rfl
  rw [e]
  unfold b_same
  have h1 := F_nsize (S := S) (x := .int s.1) (y := .int s.2) ty_int ty_int
  rw [isW_size hs.1 hs.2.2.1, isW_size hs.2.1 hs.2.2.2] at h1
  simp at h1
  rw [sq_ex (S1 := S) (d := .non) (by simp [h1]), sq_exx (c := "NoDeeds") (S1 := S) (by simp [h])]
  rfl
theorem same_nodeeds2 {s : Nat × Nat} {as : List Deed} {b : D} {S : Sto} (hs : Sz s) (oa : as.all okDeed = true) (la : as.length ≤ 20) (h : F_need_deeds [b] S = .exc "NoDeeds" S) : F_same [.int s.1, .int s.2, deedsD as, b] S = .exc "NoDeeds" S := by
  have e : F_same [.int s.1, .int s.2, deedsD as, b] S = bodyRes (b_same [some (.int s.1), some (.int s.2), some (deedsD as), some b] S) := rfl
  rw [e]
  unfold b_same
  have h1 := F_nsize (S := S) (x := .int s.1) (y := .int s.2) ty_int ty_int
  rw [isW_size hs.1 hs.2.2.1, isW_size hs.2.1 hs.2.2.2] at h1
  simp at h1
  rw [sq_ex (S1 := S) (d := .non) (by simp [h1]), sq_ex (S1 := S) (d := .non) (by simp [F_ndeeds oa la S]), sq_exx (c := "NoDeeds") (S1 := S) (by simp [h])]
  rfl
/-! ### _law_table -/
theorem kept_app (S extra : Sto) : KeptS S (S ++ extra) := ⟨by simp, fun i o hi h => by left; rwa [List.getElem?_append_left hi] at h⟩
noncomputable abbrev lp_cell : MS := sSet 2 (eCall F_law_worth (aCons (eVar 2) (aCons (eVar 3) aNil)))
theorem loop_cell {it : Its} (hi : it.guard = none) {Z M : Option D} (S : Sto) : ∀ (ds : List Deed) (x : Int) (o3 : Option D),
    ∃ a, loopF it (gN 3) lp_cell (ds.map Deed.d) [Z, M, some (.int x), o3] S = .nx [Z, M, some (.int (lgs ds x)), a] S
  | [], x, o3 => ⟨o3, by simp only [List.map_nil, loopF, lgs, if_pos (show okG it S by unfold okG; rw [hi]; trivial)]⟩
  | d :: ds, x, o3 => by
    obtain ⟨a, ih⟩ := loop_cell hi (Z := Z) (M := M) S ds (lgt d x) (some d.d)
    refine ⟨a, ?_⟩
    have h1 := H_worth d x S
    simp only [List.map_cons, loopF, if_pos (show okG it S by unfold okG; rw [hi]; trivial), gN, List.set_cons_succ, List.set_cons_zero]
    simp [lp_cell, sSet, h1, ih, lgs]
noncomputable abbrev lp_row : MS := (sSeq (sFor (iSeq (eVar 0)) (gN 3) lp_cell) (sExpr (eMethL appendD (eVar 1) (aCons (eVar 2) aNil))))
theorem loop_row {it : Its} (hi : it.guard = none) (ds : List Deed) (S : Sto) : ∀ (ks : List Nat) (acc : List D) (o2 o3 : Option D), acc.length + ks.length ≤ 1000 →
    ∃ a b, loopF it (gN 2) lp_row (ks.map fun (k : Nat) => D.int (k : Int)) [some (deedsD ds), some (.ref S.length), o2, o3] (S ++ [.lst acc]) = .nx [some (deedsD ds), some (.ref S.length), a, b] (S ++ [.lst (acc ++ ks.map fun (k : Nat) => D.int (lgs ds (k : Int)))])
  | [], acc, o2, o3, hl => ⟨o2, o3, by simp only [List.map_nil, loopF, List.append_nil, if_pos (show okG it _ by unfold okG; rw [hi]; trivial)]⟩
  | k :: ks, acc, o2, o3, hl => by
    simp only [List.length_cons] at hl
    obtain ⟨a3, h1⟩ := loop_cell (it := ⟨ds.map Deed.d, none⟩) rfl (Z := some (deedsD ds)) (M := some (.ref S.length)) (S ++ [.lst acc]) ds (k : Int) o3
    obtain ⟨a, b, ih⟩ := loop_row hi ds S ks (acc ++ [.int (lgs ds k)]) (some (.int (lgs ds k))) a3 (by simp; omega)
    refine ⟨a, b, ?_⟩
    simp only [List.map_cons, loopF, if_pos (show okG it _ by unfold okG; rw [hi]; trivial), gN, List.set_cons_succ, List.set_cons_zero]
    have hz : acc.length < sz := by unfold sz; omega
    have hb : lp_row [some (deedsD ds), some (.ref S.length), some (.int k), o3] (S ++ [.lst acc]) = .nx [some (deedsD ds), some (.ref S.length), some (.int (lgs ds k)), a3] (S ++ [.lst (acc ++ [.int (lgs ds k)])]) := by
      unfold lp_row
      have h1' : sFor (iSeq (eVar 0)) (gN 3) lp_cell [some (deedsD ds), some (.ref S.length), some (.int k), o3] (S ++ [.lst acc]) = _ := h1
      rw [sq_nx h1']
      simp [sExpr, lstOf, appendD, hz]
    rw [hb]
    simp only [ih, List.append_assoc, List.singleton_append]
theorem H_table (ds : List Deed) (S : Sto) : F_law_table [deedsD ds] S = .ok (.lst (tabD ds)) S := by
  have e : F_law_table [deedsD ds] S = leaveR S (bodyRes (b_law_table [some (deedsD ds), none, none, none] S)) := rfl
  rw [e]
  unfold b_law_table
  rw [sq_set (S1 := S ++ [.lst []]) (d := .ref S.length) (by simp)]
  simp only [List.set_cons_succ, List.set_cons_zero]
  obtain ⟨a, b, h⟩ := loop_row (it := ⟨rngD 0 10, none⟩) rfl ds S (List.range 10) [] none none (by simp)
  have hr : iRng1' (aCons (eC (.int 10)) aNil) [some (deedsD ds), some (.ref S.length), none, none] (S ++ [.lst []]) = .ok ⟨rngD 0 10, none⟩ (S ++ [.lst []]) := irng (n := 10) (by simp) (by decide)
  rw [sq_nx (show sFor _ (gN 2) lp_row _ _ = _ by
    simp only [sFor, hr, Res.then_ok]
    rw [show rngD 0 10 = (List.range 10).map fun (k : Nat) => D.int (k : Int) from rng_tb 10]
    exact h)]
  rw [s_ret (S1 := S ++ [.lst (tabD ds)]) (d := .ref S.length) (by simp [tabD, tb])]
  simp only [body_ret, leaveR]
  rw [if_pos (kept_app _ _)]
  have hd : dem 8 S.length (S ++ [.lst (tabD ds)]) (.ref S.length) = some (.lst (tabD ds)) := by
    have hg : (S ++ [O.lst (tabD ds)])[S.length]? = some (.lst (tabD ds)) := by simp
    have hm : demL (dem 7 S.length (S ++ [O.lst (tabD ds)])) (tabD ds) = some (tabD ds) := demL_same fun d hd => dem_lower 7 d (by obtain ⟨k, _, rfl⟩ := List.mem_map.1 hd; rfl)
    simp only [dem, Nat.lt_irrefl, if_false, hg, hm, Option.map_some]
  rw [hd]
  simp
end Py
set_option maxRecDepth 100000
set_option maxHeartbeats 1000000
namespace Py
open PySem PySem.Spec PyProof.Rows L2
/-! ### grids that are the same -/
theorem tb_inj {α : Type} {n m : Nat} {f g : Nat → α} (h : tb n f = tb m g) : n = m ∧ ∀ k, k < n → f k = g k := by
  have hl : n = m := by have := congrArg List.length h; simpa using this
  subst hl
  refine ⟨rfl, fun k hk => ?_⟩
  have := congrArg (·[k]?) h
  simpa [tb_get?, hk] using this
theorem gridD_inj {s1 s2 : Nat × Nat} {f g : Nat × Nat → D} (h0 : 0 < s1.2) (h : gridD s1 f = gridD s2 g) : s1 = s2 ∧ ∀ j k, j < s1.2 → k < s1.1 → f (j, k) = g (j, k) := by
  unfold gridD at h
  obtain ⟨e2, h2⟩ := tb_inj (D.tup.inj h)
  obtain ⟨e1, _⟩ := tb_inj (D.tup.inj (h2 0 h0))
  refine ⟨Prod.ext e1 e2, fun j k hj hk => ?_⟩
  exact (tb_inj (D.tup.inj (h2 j hj))).2 k hk
theorem ptD_inj {p q : Nat × Nat} (h : ptD p = ptD q) : p = q := by
  unfold ptD at h
  simp at h
  exact Prod.ext (by omega) (by omega)
/-- two rows of deeds that do the same at every cell -/
def Alike (as bs : List Deed) (s s1 s2 : Nat × Nat) : Prop := mapG as s s1 = mapG bs s s2 ∧ tabD as = tabD bs
theorem Alike.symm {as bs : List Deed} {s s1 s2 : Nat × Nat} (h : Alike as bs s s1 s2) : Alike bs as s s2 s1 := ⟨h.1.symm, h.2.symm⟩
theorem map_same {as bs : List Deed} {s s1 s2 : Nat × Nat} (h0 : 0 < s1.2) (h : mapG as s s1 = mapG bs s s2) : s1 = s2 ∧ ∀ p, InS s1 p → pos as s p = pos bs s p := by
  obtain ⟨e, h⟩ := gridD_inj h0 h
  exact ⟨e, fun p hp => ptD_inj (h p.1 p.2 hp.1 hp.2)⟩
theorem tab_same {as bs : List Deed} (h : tabD as = tabD bs) {x : Int} (h0 : 0 ≤ x) (h9 : x ≤ 9) : lgs as x = lgs bs x := by
  have := (tb_inj h).2 x.toNat (by omega)
  have e : ((x.toNat : Nat) : Int) = x := by omega
  rw [e] at this
  exact D.int.inj this
theorem tab_diff {as bs : List Deed} (h : tabD as ≠ tabD bs) : ∃ k : Nat, k < 10 ∧ lgs as k ≠ lgs bs k := by
  refine Classical.byContradiction fun c => h (tb_congr fun k hk => ?_)
  congr 1
  exact Classical.byContradiction fun z => c ⟨k, hk, z⟩
theorem alike_done {as bs : List Deed} {s s1 s2 : Nat × Nat} {g : Nat × Nat → Int} (h0 : 0 < s1.2) (ea : szs as s = some s1) (hc : Cells s g) (h : Alike as bs s s1 s2) :
    gridI s1 (fun p => lgs as (g (pos as s p))) = gridI s2 (fun p => lgs bs (g (pos bs s p))) := by
  obtain ⟨e, h1⟩ := map_same h0 h.1
  subst e
  unfold gridI
  refine gridD_congr fun j k hj hk => ?_
  have hi := pos_in (p := (j, k)) ea ⟨hj, hk⟩
  have hv := hc _ _ hi.1 hi.2
  have e := h1 (j, k) ⟨hj, hk⟩
  simp only [← e]
  congr 1
  exact tab_same h.2 hv.1 hv.2
/-- the law's numbers for places say the same -/
theorem code_same {as bs : List Deed} {s s1 s2 : Nat × Nat} (hs : Sz s) (h0 : 0 < s1.2) (ea : szs as s = some s1) (eb : szs bs s = some s2) :
    gridI s1 (fun p => codeV (pos as s p)) = gridI s2 (fun p => codeV (pos bs s p)) ↔ mapG as s s1 = mapG bs s s2 := by
  constructor
  · intro h
    obtain ⟨e, hh⟩ := gridD_inj h0 h
    subst e
    refine gridD_congr fun j k hj hk => ?_
    have h1 : codeV (pos as s (j, k)) = codeV (pos bs s (j, k)) := D.int.inj (hh j k hj hk)
    have p1 := pos_in (p := (j, k)) ea ⟨hj, hk⟩
    have p2 := pos_in (p := (j, k)) eb ⟨hj, hk⟩
    unfold InS at p1 p2
    unfold Sz at hs
    unfold codeV at h1
    have : pos as s (j, k) = pos bs s (j, k) := by
      refine Prod.ext ?_ ?_ <;> omega
    rw [this]
  · intro h
    obtain ⟨e, h1⟩ := map_same h0 h
    subst e
    unfold gridI
    refine gridD_congr fun j k hj hk => ?_
    have := h1 (j, k) ⟨hj, hk⟩
    simp only [this]
theorem rep1 (n : Nat) (x : D) : repD n [x] = tb n fun _ => x := by
  unfold repD
  refine tb_ext (by simp) fun k hk hn => ?_
  simp
theorem const_grid {s : Nat × Nat} (hs : Sz s) (c : Int) (S : Sto) : (mulD (.tup [.int c]) (.int s.1) S).bind (fun x S => mulD (.tup [x]) (.int s.2) S) = .ok (gridI s fun _ => c) S := by
  unfold Sz at hs
  simp only [mulD]
  rw [if_pos ⟨by omega, by omega, by simp⟩]
  simp only [Res.bind_ok]
  rw [if_pos ⟨by omega, by omega, by simp⟩]
  simp only [Int.toNat_natCast, rep1]
  rfl
theorem cells_const {s : Nat × Nat} {c : Int} (h0 : 0 ≤ c) (h9 : c ≤ 9) : Cells s fun _ => c := fun _ _ _ _ => ⟨h0, h9⟩
theorem eqD_bl (neg a b : Bool) (S : Sto) : eqD neg (.bl a) (.bl b) S = .ok (.bl (if neg then !(a == b) else a == b)) S := by simp [eqD, dP, toP, PyData.eqv]
/-! ### loops, the store growing -/
theorem loop_keepS {it : Its} (hi : it.guard = none) {g : MG} {body : MS} (I : Fr → Sto → Prop) : ∀ (xs : List D), (∀ x ∈ xs, ∀ fr S, I fr S → ∃ fr1 fr' S', g x fr = some fr1 ∧ body fr1 S = .nx fr' S' ∧ I fr' S') → ∀ fr S, I fr S → ∃ fr' S', loopF it g body xs fr S = .nx fr' S' ∧ I fr' S'
  | [], h, fr, S, hI => ⟨fr, S, by simp only [loopF, if_pos (show okG it S by unfold okG; rw [hi]; trivial)], hI⟩
  | x :: xs, h, fr, S, hI => by
    obtain ⟨fr1, fr', S', h1, h2, h3⟩ := h x (List.mem_cons_self ..) fr S hI
    obtain ⟨fr'', S'', h4, h5⟩ := loop_keepS hi I xs (fun y hy => h y (List.mem_cons_of_mem _ hy)) fr' S' h3
    refine ⟨fr'', S'', ?_, h5⟩
    simp only [loopF, if_pos (show okG it S by unfold okG; rw [hi]; trivial), h1, h2, h4]
theorem for_rng_keepS {f : MA} {i n : Nat} {body : MS} {S : Sto} {fr : Fr} (I : Fr → Sto → Prop) (hf : f fr S = .ok [.int (n : Int)] S) (hn : n ≤ 1000000) (h0 : I fr S) (h : ∀ k : Nat, k < n → ∀ fr S, I fr S → ∃ fr' S', body (fr.set i (some (.int k))) S = .nx fr' S' ∧ I fr' S') :
    ∃ fr' S', sFor (iRng1' f) (gN i) body fr S = .nx fr' S' ∧ I fr' S' := by
  have hr := irng hf hn
  obtain ⟨fr', S', h1, h2⟩ := loop_keepS (it := ⟨rngD 0 n, none⟩) rfl (g := gN i) (body := body) I (rngD 0 n) (fun x hx fr S hI => by
    obtain ⟨k, hk, rfl⟩ := List.mem_map.1 hx
    obtain ⟨fr', S', a, b⟩ := h k (List.mem_range.1 hk) fr S hI
    exact ⟨_, fr', S', rfl, by simpa using a, b⟩) fr S h0
  exact ⟨fr', S', by simp only [sFor, hr, Res.then_ok]; exact h1, h2⟩
/-- one of the turns answers -/
theorem loop_ret {it : Its} (hi : it.guard = none) {g : MG} {body : MS} {S : Sto} {d : D} (I : Fr → Prop) (B : D → Prop) : ∀ (xs : List D), (∃ x ∈ xs, B x) → (∀ x ∈ xs, ∀ fr, I fr → ∃ fr1, g x fr = some fr1 ∧ (body fr1 S = .ret d S ∨ ¬ B x ∧ ∃ fr', body fr1 S = .nx fr' S ∧ I fr')) → ∀ fr, I fr → loopF it g body xs fr S = .ret d S
  | [], hb, h, fr, hI => by obtain ⟨x, hx, _⟩ := hb; cases hx
  | x :: xs, hb, h, fr, hI => by
    obtain ⟨fr1, h1, h2⟩ := h x (List.mem_cons_self ..) fr hI
    simp only [loopF, if_pos (show okG it S by unfold okG; rw [hi]; trivial), h1]
    rcases h2 with h2 | ⟨nb, fr', h2, h3⟩
    · rw [h2]
    · rw [h2]
      obtain ⟨y, hy, hyb⟩ := hb
      rcases List.mem_cons.1 hy with rfl | hy
      · exact absurd hyb nb
      · exact loop_ret hi I B xs ⟨y, hy, hyb⟩ (fun z hz => h z (List.mem_cons_of_mem _ hz)) fr' h3
theorem tb_set {α : Type} {n a : Nat} {f : Nat → α} {x : α} : (tb n f).set a x = tb n (fun k => if k = a then x else f k) := by
  refine tb_ext (by simp) fun k hk hn => ?_
  rw [List.getElem_set]
  by_cases c : a = k
  · simp [c]
  · rw [if_neg c, if_neg (by omega)]
    simp
theorem tb_succ {α : Type} {n : Nat} {f : Nat → α} : tb (n + 1) f = tb n f ++ [f n] := by
  unfold tb
  rw [List.range_succ, List.map_append]
  rfl
theorem ixN_nat {n k : Nat} (h : k < n) : ixN n (k : Int) = some k := by
  unfold ixN
  simp [h]
theorem lput_eq {f fo fi : ME} {fr : Fr} {S S1 S2 S3 : Sto} {x : D} {n k : Nat} {xs : List D} (h1 : f fr S = .ok x S1) (h2 : fo fr S1 = .ok (.ref n) S2) (h3 : fi fr S2 = .ok (.int (k : Int)) S3) (h4 : S3[n]? = some (.lst xs)) (h5 : k < xs.length) : sLput f fo fi fr S = .nx fr (S3.set n (.lst (xs.set k x))) := by
  simp only [sLput, h1, h2, h3, h4, Res.then_ok, ixN_nat h5]
end Py
set_option maxRecDepth 100000
set_option maxHeartbeats 1000000
namespace Py
open PySem PySem.Spec PyProof.Rows L2
/-! ### the least of data -/
section
open PySem.W
theorem lt_self (x : PyData) : dataLt x x = false := lex_irrefl _
theorem lt_trans' {x y z : PyData} (h : dataLt x y = true) (k : dataLt y z = true) : dataLt x z = true := lex_trans _ _ _ h k
theorem minD_ok (P : PyData → Prop) : ∀ (xs : List PyData) (x : PyData), (PySem.W.minD x xs ∈ x :: xs) ∧ ∀ y ∈ x :: xs, dataLt y (PySem.W.minD x xs) = false
  | [], x => ⟨by simp [PySem.W.minD], fun y hy => by rw [List.mem_singleton] at hy; subst hy; exact lt_self _⟩
  | z :: xs, x => by
    obtain ⟨h1, h2⟩ := minD_ok P xs (if dataLt z x then z else x)
    have e : PySem.W.minD x (z :: xs) = PySem.W.minD (if dataLt z x then z else x) xs := rfl
    rw [e]
    refine ⟨?_, fun y hy => ?_⟩
    · rcases List.mem_cons.1 h1 with h | h
      · rw [h]; split <;> simp
      · simp [h]
    · have h0 := h2 _ (List.mem_cons_self ..)
      rcases List.mem_cons.1 hy with rfl | hy
      · by_cases c : dataLt z y = true
        · rw [if_pos c] at h0 ⊢
          cases q : dataLt y (PySem.W.minD z xs) with
          | false => rfl
          | true => rw [lt_trans' c q] at h0; exact h0
        · rw [if_neg c] at h0 ⊢; exact h0
      rcases List.mem_cons.1 hy with rfl | hy
      · by_cases c : dataLt y x = true
        · rw [if_pos c] at h0 ⊢; exact h0
        · rw [if_neg c] at h0 h1 h2 ⊢
          cases q : dataLt y (PySem.W.minD x xs) with
          | false => rfl
          | true =>
            have hx : PySem.W.minD x xs ∈ x :: xs := h1
            by_cases w : dataLt x (PySem.W.minD x xs) = true
            · rw [h0] at w; cases w
            · have c' : dataLt y x = false := by simpa using c
              have w' : dataLt (PySem.W.minD x xs) x = true ∨ keyToks (PySem.W.minD x xs) = keyToks x := by
                cases w2 : dataLt (PySem.W.minD x xs) x with
                | true => exact .inl rfl
                | false => exact .inr (lex_total _ _ w2 h0)
              rcases w' with w' | w'
              · rw [lt_trans' q w'] at c'; cases c'
              · unfold dataLt at q c'; rw [w'] at q; rw [q] at c'; cases c'
      · exact h2 y (List.mem_cons_of_mem _ hy)
theorem toks_eq {x y : PyData} (h : alike x y = true) (e : keyToks x = keyToks y) : PyData.eqv x y = true := by
  cases q : PyData.eqv x y with
  | true => rfl
  | false =>
    have := (toks_eqv x y h).2 q [] [.inl 0]
    rw [e, lex_pre, lex_irrefl] at this
    revert this
    decide
theorem alikeAll_of : ∀ {xs ys : List PyData}, (∀ x ∈ xs, ∀ y ∈ ys, alike x y = true) → alikeAll xs ys = true
  | [], ys, h => by simp [alikeAll]
  | x :: xs, [], h => by simp [alikeAll]
  | x :: xs, y :: ys, h => by
    rw [alikeAll, h x (List.mem_cons_self ..) y (List.mem_cons_self ..), alikeAll_of fun a ha b hb => h a (List.mem_cons_of_mem _ ha) b (List.mem_cons_of_mem _ hb)]
    rfl
theorem mem_tb {α : Type} {n : Nat} {f : Nat → α} {x : α} (h : x ∈ tb n f) : ∃ k, k < n ∧ x = f k := by
  unfold tb at h
  obtain ⟨k, hk, rfl⟩ := List.mem_map.1 h
  exact ⟨k, List.mem_range.1 hk, rfl⟩
def gP (s : Nat × Nat) (g : Nat × Nat → Int) : PyData := .tuple (tb s.2 fun j => .tuple (tb s.1 fun k => .int (g (j, k))))
theorem alike_gP {s t : Nat × Nat} {g h : Nat × Nat → Int} : alike (gP s g) (gP t h) = true := by
  unfold gP
  rw [alike]
  refine alikeAll_of fun x hx y hy => ?_
  obtain ⟨j, _, rfl⟩ := mem_tb hx
  obtain ⟨j', _, rfl⟩ := mem_tb hy
  rw [alike]
  refine alikeAll_of fun x hx y hy => ?_
  obtain ⟨k, _, rfl⟩ := mem_tb hx
  obtain ⟨k', _, rfl⟩ := mem_tb hy
  rw [alike]
end
theorem toPs_tb {f : D → Option PyData} {n : Nat} {g : Nat → D} {φ : Nat → PyData} (h : ∀ k, k < n → f (g k) = some (φ k)) : toPs f (tb n g) = some (tb n φ) := by
  induction n with
  | zero => rfl
  | succ n ih =>
    have : ∀ (as bs : List D) (ps qs : List PyData), toPs f as = some ps → toPs f bs = some qs → toPs f (as ++ bs) = some (ps ++ qs) := by
      intro as
      induction as with
      | nil => intro bs ps qs h1 h2; cases h1; exact h2
      | cons a as ih =>
        intro bs ps qs h1 h2
        simp only [toPs] at h1
        split at h1
        · rename_i p ps' e1 e2
          cases h1
          simp only [List.cons_append, toPs, e1, ih bs ps' qs e2 h2]
        · cases h1
    rw [tb_succ, tb_succ]
    exact this _ _ _ _ (ih fun k hk => h k (by omega)) (by simp only [toPs, h n (by omega)])
theorem toP_grid (n : Nat) (S : Sto) (s : Nat × Nat) (g : Nat × Nat → Int) : toP (n + 3) S (gridI s g) = some (gP s g) := by
  unfold gridI gridD gP
  simp only [toP]
  rw [toPs_tb (φ := fun j => .tuple (tb s.1 fun k => .int (g (j, k)))) (fun j _ => ?_)]
  · rfl
  · simp only [toP]
    rw [toPs_tb (φ := fun k => .int (g (j, k))) (fun k _ => ?_)]
    · rfl
    · simp only [toP]
def IsG (d : D) : Prop := ∃ s g, d = gridI s g
noncomputable def pdt (d : D) : PyData := (toP 11 [] d).getD .none
theorem pdt_grid (s : Nat × Nat) (g : Nat × Nat → Int) : pdt (gridI s g) = gP s g := by unfold pdt; rw [toP_grid 8]; rfl
theorem IsG.toP {d : D} (h : IsG d) (S : Sto) : toP 11 S d = some (pdt d) := by
  obtain ⟨s, g, rfl⟩ := h
  rw [toP_grid 8, pdt_grid]
theorem IsG.alike {d e : D} (h : IsG d) (k : IsG e) : PySem.W.alike (pdt d) (pdt e) = true := by
  obtain ⟨s, g, rfl⟩ := h
  obtain ⟨t, g', rfl⟩ := k
  rw [pdt_grid, pdt_grid]
  exact alike_gP
theorem IsG.inj {d e : D} (h : IsG d) (k : IsG e) (q : PySem.W.keyToks (pdt d) = PySem.W.keyToks (pdt e)) : d = e := by
  have a := toks_eq (h.alike k) q
  obtain ⟨s, g, rfl⟩ := h
  obtain ⟨t, g', rfl⟩ := k
  exact (pl_eqv (S := []) 11 _ _ _ _ pl_grid pl_grid (IsG.toP ⟨s, g, rfl⟩ []) (IsG.toP ⟨t, g', rfl⟩ [])).1 a
/-- the least of grids -/
def Min (ds : List D) (e : D) : Prop := e ∈ ds ∧ ∀ y ∈ ds, PySem.W.dataLt (pdt y) (pdt e) = false
open Classical in
noncomputable def leastD (ds : List D) : D := if h : ∃ e, Min ds e then Classical.choose h else .non
theorem Min.uniq {ds : List D} (hg : ∀ d ∈ ds, IsG d) {e e' : D} (h : Min ds e) (k : Min ds e') : e = e' :=
  (hg e h.1).inj (hg e' k.1) (lex_total _ _ (k.2 e h.1) (h.2 e' k.1))
theorem toPs_G {S : Sto} : ∀ {ds : List D}, (∀ d ∈ ds, IsG d) → toPs (toP 11 S) ds = some (ds.map pdt)
  | [], _ => rfl
  | d :: ds, h => by
    simp only [toPs, (h d (List.mem_cons_self ..)).toP S, toPs_G fun d hd => h d (List.mem_cons_of_mem _ hd), List.map_cons]
theorem Min.ex {ds : List D} (hne : ds ≠ []) : ∃ e, Min ds e ∧ pdt e = PySem.W.minD ((ds.map pdt).headD .none) (ds.map pdt).tail := by
  obtain ⟨d, r, rfl⟩ : ∃ d r, ds = d :: r := by
    cases ds with
    | nil => exact absurd rfl hne
    | cons d r => exact ⟨d, r, rfl⟩
  obtain ⟨h1, h2⟩ := minD_ok (fun _ => True) (r.map pdt) (pdt d)
  rw [← List.map_cons] at h1 h2
  obtain ⟨e, he, q⟩ := List.mem_map.1 h1
  exact ⟨e, ⟨he, fun y hy => by rw [q]; exact h2 _ (List.mem_map_of_mem hy)⟩, q⟩
theorem leastD_ok {ds : List D} (hne : ds ≠ []) : Min ds (leastD ds) := by
  obtain ⟨e, h, _⟩ := Min.ex hne
  have : ∃ e, Min ds e := ⟨e, h⟩
  unfold leastD
  rw [dif_pos this]
  exact Classical.choose_spec this
theorem leastD_congr {ds es : List D} (h : ∀ x, x ∈ ds ↔ x ∈ es) : leastD ds = leastD es := by
  have e : Min ds = Min es := by
    funext x
    apply propext
    unfold Min
    constructor
    · rintro ⟨a, b⟩; exact ⟨(h x).1 a, fun y hy => b y ((h y).2 hy)⟩
    · rintro ⟨a, b⟩; exact ⟨(h x).2 a, fun y hy => b y ((h y).1 hy)⟩
  unfold leastD
  rw [e]
theorem min_grids {ds : List D} (hne : ds ≠ []) (hg : ∀ d ∈ ds, IsG d) (S : Sto) : minTD [.lst ds] S = .ok (leastD ds) S := by
  obtain ⟨e, hm, q⟩ := Min.ex hne
  have el : e = leastD ds := hm.uniq hg (leastD_ok hne)
  obtain ⟨d, r, rfl⟩ : ∃ d r, ds = d :: r := by
    cases ds with
    | nil => exact absurd rfl hne
    | cons d r => exact ⟨d, r, rfl⟩
  have hP := toPs_G (S := S) hg
  rw [List.map_cons] at hP q
  unfold minTD
  simp only [lstOf_lst, hP]
  have q' : pdt e = PySem.W.minD (pdt d) (r.map pdt) := q
  have hc : PySem.W.AlikeAll (pdt d :: r.map pdt) ∧ ∃ e, ∀ e' ∈ d :: r, toP 11 S e' = some (PySem.W.minD (pdt d) (r.map pdt)) → e' = e := by
    refine ⟨⟨fun x hx y hy => ?_, fun x hx => ?_⟩, e, fun e' he' h' => ?_⟩
    · rw [← List.map_cons] at hx hy
      obtain ⟨x', hx', rfl⟩ := List.mem_map.1 hx
      obtain ⟨y', hy', rfl⟩ := List.mem_map.1 hy
      exact (hg _ hx').alike (hg _ hy')
    · rw [← List.map_cons] at hx
      obtain ⟨x', hx', rfl⟩ := List.mem_map.1 hx
      obtain ⟨s, g, rfl⟩ := hg _ hx'
      rw [pdt_grid]; intro z; cases z
    · rw [(hg e' he').toP S] at h'
      cases h'' : (rfl : pdt e' = pdt e')
      rw [← q'] at h'
      exact (hg e' he').inj (hg e hm.1) (by rw [Option.some.inj h'])
  rw [dif_pos hc]
  have := Classical.choose_spec hc.2 e hm.1 (by rw [(hg e hm.1).toP S, q'])
  rw [← this, el]
/-! ### kin -/
abbrev Pic := (Nat × Nat) × (Nat × Nat → Int)
def gr (x : Pic) : D := gridI x.1 x.2
def tn (x : Pic) : Pic := ((x.1.2, x.1.1), fun p => x.2 (x.1.2 - 1 - p.2, p.1))
def mi (x : Pic) : Pic := (x.1, fun p => x.2 (p.1, x.1.1 - 1 - p.2))
def OkP (x : Pic) : Prop := Sz x.1 ∧ Cells x.1 x.2
def kinL (x : Pic) : List Pic := [x, tn x, tn (tn x), tn (tn (tn x)), mi x, tn (mi x), tn (tn (mi x)), tn (tn (tn (mi x)))]
abbrev kinD (x : Pic) : List D := (kinL x).map gr
theorem gr_congr {x y : Pic} (hs : x.1 = y.1) (h : ∀ j k, j < x.1.2 → k < x.1.1 → x.2 (j, k) = y.2 (j, k)) : gr x = gr y := by
  unfold gr gridI
  rw [← hs]
  exact gridD_congr fun j k hj hk => by rw [h j k hj hk]
theorem gr_inj {x y : Pic} (h0 : 0 < x.1.2) (h : gr x = gr y) : x.1 = y.1 ∧ ∀ j k, j < x.1.2 → k < x.1.1 → x.2 (j, k) = y.2 (j, k) := by
  obtain ⟨a, b⟩ := gridD_inj (s1 := x.1) (s2 := y.1) (f := fun p => .int (x.2 p)) (g := fun p => .int (y.2 p)) h0 h
  exact ⟨a, fun j k hj hk => D.int.inj (b j k hj hk)⟩
theorem OkP.tn {x : Pic} (h : OkP x) : OkP (tn x) := ⟨⟨h.1.2.1, h.1.1, h.1.2.2.2, h.1.2.2.1⟩, fun j k hj hk => by
  simp only [Py.tn] at hj hk ⊢
  exact h.2 _ _ (by omega) (by omega)⟩
theorem OkP.mi {x : Pic} (h : OkP x) : OkP (mi x) := ⟨h.1, fun j k hj hk => by
  simp only [Py.mi] at hj hk ⊢
  exact h.2 _ _ hj (by omega)⟩
theorem tn_congr {x y : Pic} (h0 : 0 < x.1.2) (h : gr x = gr y) : gr (tn x) = gr (tn y) := by
  obtain ⟨a, b⟩ := gr_inj h0 h
  refine gr_congr (by simp only [tn, a]) fun j k hj hk => ?_
  simp only [tn] at hj hk ⊢
  rw [← a]
  exact b _ _ (by omega) (by omega)
theorem mi_congr {x y : Pic} (h0 : 0 < x.1.2) (h : gr x = gr y) : gr (mi x) = gr (mi y) := by
  obtain ⟨a, b⟩ := gr_inj h0 h
  refine gr_congr (by simp only [mi, a]) fun j k hj hk => ?_
  simp only [mi] at hj hk ⊢
  rw [← a]
  exact b _ _ hj (by omega)
theorem tn4 {x : Pic} : gr (tn (tn (tn (tn x)))) = gr x := gr_congr rfl fun j k hj hk => by
  simp only [tn] at hj hk ⊢
  refine congrArg x.2 (Prod.ext ?_ ?_) <;> first | (dsimp only; done) | (dsimp only; omega)
theorem mi2 {x : Pic} : gr (mi (mi x)) = gr x := gr_congr rfl fun j k hj hk => by
  simp only [mi] at hj hk ⊢
  refine congrArg x.2 (Prod.ext ?_ ?_) <;> first | (dsimp only; done) | (dsimp only; omega)
theorem mi_tn {x : Pic} : gr (mi (tn x)) = gr (tn (tn (tn (mi x)))) := gr_congr rfl fun j k hj hk => by
  simp only [mi, tn] at hj hk ⊢
  refine congrArg x.2 (Prod.ext ?_ ?_) <;> first | (dsimp only; done) | (dsimp only; omega)
theorem kin_congr {x y : Pic} (hx : OkP x) (h : gr x = gr y) : kinD x = kinD y := by
  have p := fun z : Pic => fun (hz : OkP z) => hz.1.2.1
  have h1 := tn_congr (p _ hx) h
  have h2 := tn_congr (p _ hx.tn) h1
  have h3 := tn_congr (p _ hx.tn.tn) h2
  have m0 := mi_congr (p _ hx) h
  have m1 := tn_congr (p _ hx.mi) m0
  have m2 := tn_congr (p _ hx.mi.tn) m1
  have m3 := tn_congr (p _ hx.mi.tn.tn) m2
  simp only [kinD, kinL, List.map_cons, List.map_nil, h, h1, h2, h3, m0, m1, m2, m3]
theorem kin_tn {x : Pic} (hx : OkP x) (d : D) : d ∈ kinD (tn x) ↔ d ∈ kinD x := by
  have p := fun z : Pic => fun (hz : OkP z) => hz.1.2.1
  have a := mi_tn (x := x)
  have a1 := tn_congr (p _ hx.tn.mi) a
  have a2 := tn_congr (p _ hx.tn.mi.tn) a1
  have a3 := tn_congr (p _ hx.tn.mi.tn.tn) a2
  rw [tn4] at a1
  have b1 := tn_congr (p _ hx.tn.mi.tn) a1
  have b2 := tn_congr (p _ hx.tn.mi.tn.tn) b1
  simp only [kinD, kinL, List.map_cons, List.map_nil, List.mem_cons, List.not_mem_nil, or_false, tn4, a, a1, b1, b2]
  constructor
  · rintro (h | h | h | h | h | h | h | h) <;> simp [h]
  · rintro (h | h | h | h | h | h | h | h) <;> simp [h]
theorem kin_mi {x : Pic} (hx : OkP x) (d : D) : d ∈ kinD (mi x) ↔ d ∈ kinD x := by
  have p := fun z : Pic => fun (hz : OkP z) => hz.1.2.1
  have a := mi2 (x := x)
  have a1 := tn_congr (p _ hx.mi.mi) a
  have a2 := tn_congr (p _ hx.mi.mi.tn) a1
  have a3 := tn_congr (p _ hx.mi.mi.tn.tn) a2
  simp only [kinD, kinL, List.map_cons, List.map_nil, List.mem_cons, List.not_mem_nil, or_false, a, a1, a2, a3]
  constructor
  · rintro (h | h | h | h | h | h | h | h) <;> simp [h]
  · rintro (h | h | h | h | h | h | h | h) <;> simp [h]
theorem kinL_ok {x z : Pic} (hx : OkP x) (hz : z ∈ kinL x) : OkP z := by
  simp only [kinL, List.mem_cons, List.not_mem_nil, or_false] at hz
  rcases hz with rfl | rfl | rfl | rfl | rfl | rfl | rfl | rfl
  · exact hx
  · exact hx.tn
  · exact hx.tn.tn
  · exact hx.tn.tn.tn
  · exact hx.mi
  · exact hx.mi.tn
  · exact hx.mi.tn.tn
  · exact hx.mi.tn.tn.tn
theorem kinL_kin {x z : Pic} (hx : OkP x) (hz : z ∈ kinL x) (d : D) : d ∈ kinD z ↔ d ∈ kinD x := by
  simp only [kinL, List.mem_cons, List.not_mem_nil, or_false] at hz
  rcases hz with rfl | rfl | rfl | rfl | rfl | rfl | rfl | rfl
  · exact Iff.rfl
  · exact kin_tn hx d
  · rw [kin_tn hx.tn, kin_tn hx]
  · rw [kin_tn hx.tn.tn, kin_tn hx.tn, kin_tn hx]
  · exact kin_mi hx d
  · rw [kin_tn hx.mi, kin_mi hx]
  · rw [kin_tn hx.mi.tn, kin_tn hx.mi, kin_mi hx]
  · rw [kin_tn hx.mi.tn.tn, kin_tn hx.mi.tn, kin_tn hx.mi, kin_mi hx]
theorem kin_mem {x y : Pic} (hx : OkP x) (h : gr y ∈ kinD x) (d : D) : d ∈ kinD y ↔ d ∈ kinD x := by
  obtain ⟨z, hz, e⟩ := List.mem_map.1 h
  rw [← kin_congr (kinL_ok hx hz) e, kinL_kin hx hz]
theorem kin_self (x : Pic) : gr x ∈ kinD x := by simp [kinD, kinL]
theorem kin_G {x : Pic} : ∀ d ∈ kinD x, IsG d := fun d hd => by
  obtain ⟨z, _, rfl⟩ := List.mem_map.1 hd
  exact ⟨z.1, z.2, rfl⟩
/-- the least of the kin -/
noncomputable def least (x : Pic) : D := leastD (kinD x)
theorem least_iff {x y : Pic} (hx : OkP x) (hy : OkP y) : least x = least y ↔ gr y ∈ kinD x := by
  constructor
  · intro h
    have a := (leastD_ok (ds := kinD x) (by simp [kinD, kinL])).1
    have b := (leastD_ok (ds := kinD y) (by simp [kinD, kinL])).1
    rw [show leastD (kinD x) = leastD (kinD y) from h] at a
    obtain ⟨z, hz, e⟩ := List.mem_map.1 b
    rw [← e] at a
    exact (kin_mem hx a (gr y)).1 ((kinL_kin hy hz (gr y)).2 (kin_self y))
  · intro h
    exact leastD_congr fun d => (kin_mem hx h d).symm
end Py
set_option maxRecDepth 100000
set_option maxHeartbeats 1000000
namespace Py
open PySem PySem.Spec PyProof.Rows L2
theorem le8 {n : Nat} (h : n ≤ 8) : n ≤ 1000 := Nat.le_trans h (by decide)
theorem gr_turned {x : Pic} (hx : OkP x) (S : Sto) : F_turned_rows [gr x] S = .ok (gr (tn x)) S := by
  have := G_turned (s := x.1) (f := fun p => .int (x.2 p)) hx.1.2.1 (le8 hx.1.2.2.1) (le8 hx.1.2.2.2) S
  exact this
theorem gr_mirrored {x : Pic} (hx : OkP x) (S : Sto) : F_mirrored_rows [gr x] S = .ok (gr (mi x)) S := by
  have := G_mirrored (s := x.1) (f := fun p => .int (x.2 p)) (le8 hx.1.2.2.2) S
  exact this
theorem hr_turned {x : Pic} (hx : OkP x) (S : Sto) : F_law_turned [gr x] S = .ok (gr (tn x)) S := by
  have := H_turned (s := x.1) (f := fun p => .int (x.2 p)) hx.1.2.1 (le8 hx.1.2.2.1) (le8 hx.1.2.2.2) S
  exact this
theorem hr_mirrored {x : Pic} (hx : OkP x) (S : Sto) : F_law_mirrored [gr x] S = .ok (gr (mi x)) S := by
  have := H_mirrored (s := x.1) (f := fun p => .int (x.2 p)) (le8 hx.1.2.2.1) (le8 hx.1.2.2.2) S
  exact this
theorem gr_need {x : Pic} (hx : OkP x) (S : Sto) : F_need_picture [gr x] S = .ok .non S := by
  unfold gr
  rw [F_npic ty3_grid, isPic_grid hx.1 hx.2]; rfl
theorem pl_gr (n : Nat) (x : Pic) : pl (n + 3) (gr x) = true := pl_grid
theorem top_ap {S : Sto} {acc : List D} {x : D} (h : acc.length < 1000000) : appendD (.ref S.length) [x] (S ++ [.lst acc]) = .ok .non (S ++ [.lst (acc ++ [x])]) := by
  have : acc.length < sz := h
  simp [appendD, this]
theorem top_ls {S : Sto} {acc : List D} : lstOf (S ++ [.lst acc]) (.ref S.length) = some acc := by simp [lstOf]
noncomputable abbrev lp_kin (FT : List D → Sto → Res D) : MS := sSeq (sExpr (eMethL appendD (eVar 1) (aCons (eVar 2) aNil))) (sSet 2 (eCall FT (aCons (eVar 2) aNil)))
theorem kin_step {FT : List D → Sto → Res D} (hT : ∀ x, OkP x → ∀ S, FT [gr x] S = .ok (gr (tn x)) S) {x : Pic} (hx : OkP x) {S : Sto} {acc : List D} (hl : acc.length < 1000) (z o3 : Option D) :
    lp_kin FT [z, some (.ref S.length), some (gr x), o3] (S ++ [.lst acc]) = .nx [z, some (.ref S.length), some (gr (tn x)), o3] (S ++ [.lst (acc ++ [gr x])]) := by
  unfold lp_kin
  rw [sq_ex (S1 := S ++ [.lst (acc ++ [gr x])]) (d := .non) (by simp only [eMethL, ap_var, List.getElem?_cons_succ, List.getElem?_cons_zero, Res.bind_ok, top_ls, ap_cons, ap_nil]; exact top_ap (by omega))]
  simp [sSet, hT x hx]
theorem loopF_cons {it : Its} (hi : it.guard = none) {g : MG} {body : MS} {d : D} {ds : List D} {fr fr1 fr2 : Fr} {S S2 : Sto} (h1 : g d fr = some fr1) (h2 : body fr1 S = .nx fr2 S2) : loopF it g body (d :: ds) fr S = loopF it g body ds fr2 S2 := by
  simp only [loopF, if_pos (show okG it S by unfold okG; rw [hi]; trivial), h1, h2]
theorem loopF_nil {it : Its} (hi : it.guard = none) {g : MG} {body : MS} {fr : Fr} {S : Sto} : loopF it g body [] fr S = .nx fr S := by
  simp only [loopF, if_pos (show okG it S by unfold okG; rw [hi]; trivial)]
theorem kin_four {FT : List D → Sto → Res D} (hT : ∀ x, OkP x → ∀ S, FT [gr x] S = .ok (gr (tn x)) S) {x : Pic} (hx : OkP x) {S : Sto} {acc : List D} (hl : acc.length < 900) (z o3 : Option D) :
    sFor (iRng1' (aCons (eC (.int 4)) aNil)) (gN 3) (lp_kin FT) [z, some (.ref S.length), some (gr x), o3] (S ++ [.lst acc]) = .nx [z, some (.ref S.length), some (gr (tn (tn (tn (tn x))))), some (.int 3)] (S ++ [.lst (acc ++ [gr x, gr (tn x), gr (tn (tn x)), gr (tn (tn (tn x)))])]) := by
  have hr : iRng1' (aCons (eC (.int 4)) aNil) [z, some (.ref S.length), some (gr x), o3] (S ++ [.lst acc]) = .ok ⟨rngD 0 4, none⟩ (S ++ [.lst acc]) := irng (n := 4) (by simp) (by decide)
  simp only [sFor, hr, Res.then_ok]
  rw [show (rngD 0 4) = [.int 0, .int 1, .int 2, .int 3] from rfl]
  have st := fun (y : Pic) (hy : OkP y) (a : List D) (ha : a.length < 1000) (o : Option D) => kin_step hT hy (S := S) (acc := a) ha z o
  rw [loopF_cons rfl (g := gN 3) rfl (st x hx acc (by omega) _)]
  rw [loopF_cons rfl (g := gN 3) rfl (st _ hx.tn _ (by simp; omega) _)]
  rw [loopF_cons rfl (g := gN 3) rfl (st _ hx.tn.tn _ (by simp; omega) _)]
  rw [loopF_cons rfl (g := gN 3) rfl (st _ hx.tn.tn.tn _ (by simp; omega) _)]
  rw [loopF_nil rfl]
  simp
theorem kin_body {FT FM : List D → Sto → Res D} (hT : ∀ x, OkP x → ∀ S, FT [gr x] S = .ok (gr (tn x)) S) (hM : ∀ x, OkP x → ∀ S, FM [gr x] S = .ok (gr (mi x)) S) {x : Pic} (hx : OkP x) (S : Sto) :
    fnD 1 4 (sSeq (sSet 1 (eNewL aNil)) (sSeq (sFor (iSeq (eTup (aCons (eVar 0) (aCons (eCall FM (aCons (eVar 0) aNil)) aNil)))) (gN 2) (sFor (iRng1' (aCons (eC (.int 4)) aNil)) (gN 3) (lp_kin FT))) (sRet (eVar 1)))) [gr x] S = .ok (.lst (kinD x)) S := by
  show leaveR S (bodyRes (sSeq (sSet 1 (eNewL aNil)) _ [some (gr x), none, none, none] S)) = _
  rw [sq_set (S1 := S ++ [.lst []]) (d := .ref S.length) (by simp)]
  simp only [List.set_cons_succ, List.set_cons_zero]
  have f : sFor (iSeq (eTup (aCons (eVar 0) (aCons (eCall FM (aCons (eVar 0) aNil)) aNil)))) (gN 2) (sFor (iRng1' (aCons (eC (.int 4)) aNil)) (gN 3) (lp_kin FT)) [some (gr x), some (.ref S.length), none, none] (S ++ [.lst []]) =
      .nx [some (gr x), some (.ref S.length), some (gr (tn (tn (tn (tn (mi x)))))), some (.int 3)] (S ++ [.lst (kinD x)]) := by
    have hi : iSeq (eTup (aCons (eVar 0) (aCons (eCall FM (aCons (eVar 0) aNil)) aNil))) [some (gr x), some (.ref S.length), none, none] (S ++ [.lst []]) = .ok ⟨[gr x, gr (mi x)], none⟩ (S ++ [.lst []]) := by
      simp [iSeq, hM x hx, seqIts]
    simp only [sFor, hi, Res.then_ok]
    have k4 := fun (y : Pic) (hy : OkP y) (a : List D) (ha : a.length < 900) (o : Option D) => kin_four hT hy (S := S) (acc := a) ha (some (gr x)) o
    simp only [sFor] at k4
    rw [loopF_cons rfl (g := gN 2) rfl (k4 x hx [] (by simp) _)]
    rw [loopF_cons rfl (g := gN 2) rfl (k4 (mi x) hx.mi _ (by simp) _)]
    rw [loopF_nil rfl]
    simp [kinD, kinL]
  rw [sq_nx f, s_ret (S1 := S ++ [.lst (kinD x)]) (d := .ref S.length) (by simp)]
  simp only [body_ret, leaveR]
  rw [if_pos (kept_app _ _)]
  have hd : dem 8 S.length (S ++ [.lst (kinD x)]) (.ref S.length) = some (.lst (kinD x)) := by
    have hg : (S ++ [O.lst (kinD x)])[S.length]? = some (.lst (kinD x)) := by simp
    have low : ∀ y : Pic, (gr y).lower S.length = true := fun y => by
      unfold gr gridI gridD
      simp only [D.lower]
      refine lowerL_of fun d hd => ?_
      obtain ⟨j, _, rfl⟩ := mem_tb hd
      simp only [D.lower]
      refine lowerL_of fun d hd => ?_
      obtain ⟨k, _, rfl⟩ := mem_tb hd
      simp only [D.lower]
    have hm : demL (dem 7 S.length (S ++ [O.lst (kinD x)])) (kinD x) = some (kinD x) := demL_same fun d hd => dem_lower 7 d (by
      obtain ⟨y, _, rfl⟩ := List.mem_map.1 hd
      exact low y)
    simp only [dem, Nat.lt_irrefl, if_false, hg, hm, Option.map_some]
  rw [hd]
  simp
theorem G_kin {x : Pic} (hx : OkP x) (S : Sto) : F_kin_of [gr x] S = .ok (.lst (kinD x)) S := kin_body (fun x h S => gr_turned h S) (fun x h S => gr_mirrored h S) hx S
theorem H_kin {x : Pic} (hx : OkP x) (S : Sto) : F_law_kin [gr x] S = .ok (.lst (kinD x)) S := kin_body (fun x h S => hr_turned h S) (fun x h S => hr_mirrored h S) hx S
theorem min_kin {x : Pic} (S : Sto) : minTD [.lst (kinD x)] S = .ok (least x) S := min_grids (by simp [kinD, kinL]) kin_G S
theorem G_turnedP {x : Pic} (hx : OkP x) (S : Sto) : F_turned [gr x] S = .ok (gr (tn x)) S := by
  show bodyRes (b_turned [some (gr x)] S) = _
  unfold b_turned
  rw [sq_ex (S1 := S) (d := .non) (by simp [gr_need hx])]
  simp [sRet, gr_turned hx]
theorem G_mirroredP {x : Pic} (hx : OkP x) (S : Sto) : F_mirrored [gr x] S = .ok (gr (mi x)) S := by
  show bodyRes (b_mirrored [some (gr x)] S) = _
  unfold b_mirrored
  rw [sq_ex (S1 := S) (d := .non) (by simp [gr_need hx])]
  simp [sRet, gr_mirrored hx]
theorem G_least {x : Pic} (hx : OkP x) (S : Sto) : F_least_kin [gr x] S = .ok (least x) S := by
  show bodyRes (b_least_kin [some (gr x)] S) = _
  unfold b_least_kin
  rw [sq_ex (S1 := S) (d := .non) (by simp [gr_need hx])]
  simp [sRet, G_kin hx, min_kin]
theorem least_G (x : Pic) : IsG (least x) := kin_G (x := x) _ (leastD_ok (ds := kinD x) (by simp [kinD, kinL])).1
theorem pl_least (n : Nat) (x : Pic) : pl (n + 3) (least x) = true := by
  obtain ⟨s, g, e⟩ := least_G x
  rw [e]; exact pl_grid
open Classical in
theorem eq_least {x y : Pic} (hx : OkP x) (hy : OkP y) (neg : Bool) (S : Sto) : eqD neg (least x) (least y) S = .ok (.bl (if neg then !decide (gr y ∈ kinD x) else decide (gr y ∈ kinD x))) S := by
  rw [eqD_pl (pl_least 9 x) (pl_least 9 y)]
  have : decide (least x = least y) = decide (gr y ∈ kinD x) := decide_eq_decide.2 (least_iff hx hy)
  rw [this]
open Classical in
theorem G_are {x y : Pic} (hx : OkP x) (hy : OkP y) (S : Sto) : F_are_kin [gr x, gr y] S = .ok (.bl (decide (gr y ∈ kinD x))) S := by
  show bodyRes (b_are_kin [some (gr x), some (gr y)] S) = _
  unfold b_are_kin
  rw [sq_ex (S1 := S) (d := .non) (by simp [gr_need hx]), sq_ex (S1 := S) (d := .non) (by simp [gr_need hy])]
  simp [sRet, G_kin hx, G_kin hy, min_kin, eq_least hx hy]
theorem kin_comm {x y : Pic} (hx : OkP x) (hy : OkP y) : gr y ∈ kinD x ↔ gr x ∈ kinD y := by
  rw [← least_iff hx hy, ← least_iff hy hx]; exact eq_comm
/-! x in a list of plain data -/
theorem any_eqv {S : Sto} {a : D} {p : PyData} (ha : pl 11 a = true) (hp : toP 11 S a = some p) : ∀ (as : List D) (ps : List PyData), as.all (pl 11) = true → toPs (toP 11 S) as = some ps → (ps.any (fun z => PyData.eqv z p) = true ↔ a ∈ as)
  | [], ps, h, e => by cases e; simp
  | b :: bs, ps, h, e => by
    simp only [List.all_cons, Bool.and_eq_true] at h
    simp only [toPs] at e
    split at e
    · rename_i q qs e1 e2
      cases e
      rw [List.any_cons, Bool.or_eq_true, any_eqv ha hp bs qs h.2 e2, pl_eqv 11 b a q p h.1 ha e1 hp, List.mem_cons]
      constructor
      · rintro (z | z)
        · exact .inl z.symm
        · exact .inr z
      · rintro (z | z)
        · exact .inl z.symm
        · exact .inr z
    · cases e
theorem toP_mono {S : Sto} : ∀ (n : Nat) (d : D) (p : PyData), toP n S d = some p → toP (n + 1) S d = some p := by
  have L : ∀ (n : Nat), (∀ d p, toP n S d = some p → toP (n + 1) S d = some p) → ∀ (ds : List D) (ps : List PyData), toPs (toP n S) ds = some ps → toPs (toP (n + 1) S) ds = some ps := by
    intro n ih ds
    induction ds with
    | nil => intro ps h; exact h
    | cons d ds ihd =>
      intro ps h
      simp only [toPs] at h ⊢
      split at h
      · rename_i p ps' e1 e2
        cases h
        rw [ih d p e1, ihd ps' e2]
      · cases h
  intro n
  induction n with
  | zero => intro d p h; simp [toP] at h
  | succ n ih =>
    intro d p h
    have mp : ∀ (C : List PyData → PyData) (ds : List D), (toPs (toP n S) ds).map C = some p → (toPs (toP (n + 1) S) ds).map C = some p := by
      intro C ds h
      cases e : toPs (toP n S) ds with
      | none => rw [e] at h; cases h
      | some ps => rw [e] at h; rw [L n ih ds ps e]; exact h
    cases d with
    | tup ds => simp only [toP] at h; exact mp _ ds h
    | lst ds => simp only [toP] at h; exact mp _ ds h
    | fz ds => simp only [toP] at h; exact mp _ ds h
    | ref k =>
      simp only [toP] at h
      unfold toP
      split at h
      · exact mp _ _ h
      · cases h
    | non => exact h
    | bl b => exact h
    | int i => exact h
    | str x => exact h
    | adr a => simp [toP] at h
    | ty a => simp [toP] at h
open Classical in
theorem in_plL {S : Sto} {neg : Bool} {a : D} {as : List D} (ha : pl 11 a = true) (h : as.all (pl 11) = true) : inD neg a (.lst as) S = .ok (.bl (if neg then !decide (a ∈ as) else decide (a ∈ as))) S := by
  obtain ⟨p, hp⟩ := pl_data (S := S) 11 a ha
  obtain ⟨ps, hs⟩ := pls_data (S := S) (pl_data 11) as h
  have e := any_eqv ha hp as ps h hs
  have e' : ps.any (fun z => PyData.eqv z p) = decide (a ∈ as) := by rw [Bool.eq_iff_iff]; simpa using e
  have h1 : dP S a = some p := toP_mono 11 a p hp
  have h2 : dP S (.lst as) = some (.list ps) := by show toP 12 S (.lst as) = _; simp only [toP, hs, Option.map_some]
  simp only [inD, h1, h2, e']
end Py
set_option maxRecDepth 100000
set_option maxHeartbeats 4000000
namespace Py
open PySem PySem.Spec PyProof.Rows L2
structure Mods (K : PySem.W.Frag) (mg : Str → Option Value) : Prop where
  c_GREAT : ∃ t, mg "GREAT" = some (.int 9 t)
  c_SIDE : ∃ t, mg "SIDE" = some (.int 8 t)
  x_NoPicture : ExcF K mg "NoPicture"
  ok_ : True
noncomputable def b_law : MS :=
  (sSeq (sSet 1 (eNewL aNil))
    (sSeq (sSet 2 (eCall F_law_picture (aCons (eVar 0) (aCons (eVar 1) (aCons (eC (.int 8)) aNil)))))
    (sSeq (sSet 3 (eCall F_law_pick (aCons (eVar 0) (aCons (eVar 1) (aCons (eCall F_law_kin (aCons (eVar 2) aNil)) aNil)))))
    (sSeq (sIf (tVal (e2 (eqD false) (eCall F_law_draw (aCons (eVar 0) (aCons (eVar 1) (aCons (eC (.int 2)) aNil)))) (eC (.int 0))))
    (sSeq (sSet 8 (eCall listN (aCons (e2 ixD (eVar 3) (eC (.int 0))) aNil)))
    (sSeq (sLput (eCall F_law_draw (aCons (eVar 0) (aCons (eVar 1) (aCons (eC (.int 10)) aNil)))) (eVar 8) (eCall F_law_draw (aCons (eVar 0) (aCons (eVar 1) (aCons (eCall lenD (aCons (eVar 8) aNil)) aNil)))))
    (sSet 3 (e2 addD (eTup (aCons (eCall tupleD (aCons (eVar 8) aNil)) aNil)) (eSlc (eVar 3) (oSome (eC (.int 1))) oNone)))))
    sNil)
    (sSeq (sSet 4 (eCall F_law_picture (aCons (eVar 0) (aCons (eVar 1) (aCons (eC (.int 2)) aNil)))))
    (sSeq (sFor (iSeq (eTup (aCons (eVar 3) (aCons (eVar 4) aNil)))) (gN 5)
    (sSeq (sSet 9 (e2 (inD false) (eVar 5) (eCall F_law_kin (aCons (eVar 2) aNil))))
    (sSeq (sIf (tOrM (tVal (e2 (eqD true) (eCall F_are_kin (aCons (eVar 2) (aCons (eVar 5) aNil))) (eVar 9))) (tOrM (tVal (e2 (eqD true) (eCall F_are_kin (aCons (eVar 5) (aCons (eVar 2) aNil))) (eVar 9))) (tNotM (tVal (eCall isiD (aCons (eCall F_are_kin (aCons (eVar 2) (aCons (eVar 5) aNil))) (aCons (eC (.ty "bool")) aNil)))))))
    (sRet (eC (.bl false)))
    sNil)
    (sIf (tOrM (tVal (e2 (eqD true) (e2 (eqD false) (eCall F_least_kin (aCons (eVar 5) aNil)) (eCall F_least_kin (aCons (eVar 2) aNil))) (eVar 9))) (tVal (e2 (eqD true) (eCall F_least_kin (aCons (eVar 5) aNil)) (eCall minTD (aCons (eCall F_law_kin (aCons (eVar 5) aNil)) aNil)))))
    (sRet (eC (.bl false)))
    sNil))))
    (sSeq (sSet 6 (eVar 2))
    (sSeq (sFor (iRng1' (aCons (eC (.int 4)) aNil)) (gN 7)
    (sSeq (sIf (tOrM (tVal (e2 (eqD true) (eCall F_least_kin (aCons (eVar 6) aNil)) (eCall F_least_kin (aCons (eVar 2) aNil)))) (tVal (e2 (eqD true) (eCall F_mirrored (aCons (eCall F_mirrored (aCons (eVar 6) aNil)) aNil)) (eVar 6))))
    (sRet (eC (.bl false)))
    sNil)
    (sSeq (sIf (tVal (e2 (eqD true) (eCall F_mirrored (aCons (eCall F_turned (aCons (eCall F_mirrored (aCons (eVar 6) aNil)) aNil)) aNil)) (eCall F_turned (aCons (eCall F_turned (aCons (eCall F_turned (aCons (eVar 6) aNil)) aNil)) aNil))))
    (sRet (eC (.bl false)))
    sNil)
    (sSet 6 (eCall F_turned (aCons (eVar 6) aNil))))))
    (sRet (e2 (eqD false) (eVar 6) (eVar 2)))))))))))
end Py
set_option maxRecDepth 100000
set_option maxHeartbeats 4000000
namespace Py
open PySem PySem.Spec PyProof.Rows L2
def topS (i : Nat) : Stmt := PySem.Challenge.pw_picturehall_k02_whole_kin.main.body.getD i (.Pass ⟨0, 0, 0, 0⟩)
abbrev s_is_whole : Stmt := topS 6
abbrev N_is_whole : List Str := ["thing", "low", "most"]
theorem sc_is_whole : FnScope N_is_whole ["thing", "low", "most"] (defScope s_is_whole) := ⟨rfl, rfl, rfl, by decide +kernel, rfl, by decide +kernel, by decide +kernel⟩
theorem d_is_whole {P : Program} {w : World} {K : PySem.W.Frag} {mg : Str → Option Value} {base : Heap} (z : Free mg) (M : Mods K mg)  :
    BodyOk P w K mg base N_is_whole s_is_whole 0 b_is_whole := by
  intro qual f cdv A outer s H E hr tk hp
  exact
    (sb_one (ss_ret (se_and (se_callB call_isi o_isi (by rfl) z.isinstance_ bt_isinstance (sa_cons (se_var 0) (sa_cons (se_bty (by rfl) z.int_ bt_int) sa_nil))) (se_and (se_not (se_callB call_isi o_isi (by rfl) z.isinstance_ bt_isinstance (sa_cons (se_var 0) (sa_cons (se_bty (by rfl) z.bool_ bt_bool) sa_nil)))) (se_one (se_chain op_leA op_leA o_cmpI o_cmpI (se_var 1) (se_var 0) (se_var 2)))))))
abbrev s_turned_rows : Stmt := topS 9
abbrev N_turned_rows : List Str := ["rows", "k", "row"]
theorem sc_turned_rows : FnScope N_turned_rows ["rows"] (defScope s_turned_rows) := ⟨rfl, rfl, rfl, by decide +kernel, rfl, by decide +kernel, by decide +kernel⟩
theorem d_turned_rows {P : Program} {w : World} {K : PySem.W.Frag} {mg : Str → Option Value} {base : Heap} (z : Free mg) (M : Mods K mg)  :
    BodyOk P w K mg base N_turned_rows s_turned_rows 0 b_turned_rows := by
  intro qual f cdv A outer s H E hr tk hp
  exact
    (sb_one (ss_ret (se_callTy call_tuple_of o_tuple (by rfl) z.tuple_ bt_tuple (sa_cons (se_lc (own := [("k", 1)]) rfl sc_turned_rows.nd (si_range1 (by rfl) z.range_ (sa_cons (se_callB call_len o_len (by rfl) z.len_ bt_len (sa_cons (se_ix ix_seq o_ix (se_var 0) se_int (fun _ _ => rfl)) sa_nil)) sa_nil)) (blkOk_by (by kernel_rfl)) (by simp) (fun _ _ _ _ _ => (sg_name (i := 1) sc_turned_rows.nd rfl (by first | exact Or.inl rfl | exact Or.inr rfl))) (fun _ _ _ _ _ => sts_nil) (fun _ _ _ _ _ => (se_callTy call_tuple_of o_tuple (by rfl) z.tuple_ bt_tuple (sa_cons (se_lc (own := [("row", 2)]) rfl sc_turned_rows.nd (si_seq (se_rev (se_var 0))) (blkOk_by (by kernel_rfl)) (by simp) (fun _ _ _ _ _ => (sg_name (i := 2) sc_turned_rows.nd rfl (by first | exact Or.inl rfl | exact Or.inr rfl))) (fun _ _ _ _ _ => sts_nil) (fun _ _ _ _ _ => (se_ix ix_seq o_ix (se_var 2) (se_var 1) (fun _ _ => rfl)))) sa_nil)))) sa_nil))))
abbrev s_mirrored_rows : Stmt := topS 10
abbrev N_mirrored_rows : List Str := ["rows", "row"]
theorem sc_mirrored_rows : FnScope N_mirrored_rows ["rows"] (defScope s_mirrored_rows) := ⟨rfl, rfl, rfl, by decide +kernel, rfl, by decide +kernel, by decide +kernel⟩
theorem d_mirrored_rows {P : Program} {w : World} {K : PySem.W.Frag} {mg : Str → Option Value} {base : Heap} (z : Free mg) (M : Mods K mg)  :
    BodyOk P w K mg base N_mirrored_rows s_mirrored_rows 0 b_mirrored_rows := by
  intro qual f cdv A outer s H E hr tk hp
  exact
    (sb_one (ss_ret (se_callTy call_tuple_of o_tuple (by rfl) z.tuple_ bt_tuple (sa_cons (se_lc (own := [("row", 1)]) rfl sc_mirrored_rows.nd (si_seq (se_var 0)) (blkOk_by (by kernel_rfl)) (by simp) (fun _ _ _ _ _ => (sg_name (i := 1) sc_mirrored_rows.nd rfl (by first | exact Or.inl rfl | exact Or.inr rfl))) (fun _ _ _ _ _ => sts_nil) (fun _ _ _ _ _ => (se_rev (se_var 1)))) sa_nil))))
abbrev s_law_cell_at : Stmt := topS 17
abbrev N_law_cell_at : List Str := ["script", "k"]
theorem sc_law_cell_at : FnScope N_law_cell_at ["script", "k"] (defScope s_law_cell_at) := ⟨rfl, rfl, rfl, by decide +kernel, rfl, by decide +kernel, by decide +kernel⟩
theorem d_law_cell_at {P : Program} {w : World} {K : PySem.W.Frag} {mg : Str → Option Value} {base : Heap} (z : Free mg) (M : Mods K mg)  :
    BodyOk P w K mg base N_law_cell_at s_law_cell_at 0 b_law_cell_at := by
  intro qual f cdv A outer s H E hr tk hp
  exact
    (sb_cons (ss_if (st_cmp op_ltA o_cmpI (se_var 1) (se_callB call_len o_len (by rfl) z.len_ bt_len (sa_cons (se_var 0) sa_nil)) (nomark _))
    (sb_one (ss_ret (se_ix ix_seq o_ix (se_var 0) (se_var 1) (fun _ _ => rfl))))
    sb_nil)
    (sb_cons (ss_if (st_cmp (op_eqD hr.units) o_eq (se_var 0) (se_lst sa_nil) (nomark _))
    (sb_one (ss_ret se_int))
    sb_nil)
    (sb_one (ss_ret (se_op op_addA o_add (se_op op_mulA o_mul (se_ix ix_seq o_ix (se_var 0) (se_op op_mod o_mod (se_var 1) (se_callB call_len o_len (by rfl) z.len_ bt_len (sa_cons (se_var 0) sa_nil))) (fun _ _ => rfl)) se_int) (se_var 1))))))
abbrev s_law_turned : Stmt := topS 22
abbrev N_law_turned : List Str := ["rows", "k", "j"]
theorem sc_law_turned : FnScope N_law_turned ["rows"] (defScope s_law_turned) := ⟨rfl, rfl, rfl, by decide +kernel, rfl, by decide +kernel, by decide +kernel⟩
theorem d_law_turned {P : Program} {w : World} {K : PySem.W.Frag} {mg : Str → Option Value} {base : Heap} (z : Free mg) (M : Mods K mg)  :
    BodyOk P w K mg base N_law_turned s_law_turned 0 b_law_turned := by
  intro qual f cdv A outer s H E hr tk hp
  exact
    (sb_one (ss_ret (se_callTy call_tuple_of o_tuple (by rfl) z.tuple_ bt_tuple (sa_cons (se_lc (own := [("k", 1)]) rfl sc_law_turned.nd (si_range1 (by rfl) z.range_ (sa_cons (se_callB call_len o_len (by rfl) z.len_ bt_len (sa_cons (se_ix ix_seq o_ix (se_var 0) se_int (fun _ _ => rfl)) sa_nil)) sa_nil)) (blkOk_by (by kernel_rfl)) (by simp) (fun _ _ _ _ _ => (sg_name (i := 1) sc_law_turned.nd rfl (by first | exact Or.inl rfl | exact Or.inr rfl))) (fun _ _ _ _ _ => sts_nil) (fun _ _ _ _ _ => (se_callTy call_tuple_of o_tuple (by rfl) z.tuple_ bt_tuple (sa_cons (se_lc (own := [("j", 2)]) rfl sc_law_turned.nd (si_range1 (by rfl) z.range_ (sa_cons (se_callB call_len o_len (by rfl) z.len_ bt_len (sa_cons (se_var 0) sa_nil)) sa_nil)) (blkOk_by (by kernel_rfl)) (by simp) (fun _ _ _ _ _ => (sg_name (i := 2) sc_law_turned.nd rfl (by first | exact Or.inl rfl | exact Or.inr rfl))) (fun _ _ _ _ _ => sts_nil) (fun _ _ _ _ _ => (se_ix ix_seq o_ix (se_ix ix_seq o_ix (se_var 0) (se_op op_sub o_sub (se_op op_sub o_sub (se_callB call_len o_len (by rfl) z.len_ bt_len (sa_cons (se_var 0) sa_nil)) se_int) (se_var 2)) (fun _ _ => rfl)) (se_var 1) (fun _ _ => rfl)))) sa_nil)))) sa_nil))))
abbrev s_law_mirrored : Stmt := topS 23
abbrev N_law_mirrored : List Str := ["rows", "row", "k"]
theorem sc_law_mirrored : FnScope N_law_mirrored ["rows"] (defScope s_law_mirrored) := ⟨rfl, rfl, rfl, by decide +kernel, rfl, by decide +kernel, by decide +kernel⟩
theorem d_law_mirrored {P : Program} {w : World} {K : PySem.W.Frag} {mg : Str → Option Value} {base : Heap} (z : Free mg) (M : Mods K mg)  :
    BodyOk P w K mg base N_law_mirrored s_law_mirrored 0 b_law_mirrored := by
  intro qual f cdv A outer s H E hr tk hp
  exact
    (sb_one (ss_ret (se_callTy call_tuple_of o_tuple (by rfl) z.tuple_ bt_tuple (sa_cons (se_lc (own := [("row", 1)]) rfl sc_law_mirrored.nd (si_seq (se_var 0)) (blkOk_by (by kernel_rfl)) (by simp) (fun _ _ _ _ _ => (sg_name (i := 1) sc_law_mirrored.nd rfl (by first | exact Or.inl rfl | exact Or.inr rfl))) (fun _ _ _ _ _ => sts_nil) (fun _ _ _ _ _ => (se_callTy call_tuple_of o_tuple (by rfl) z.tuple_ bt_tuple (sa_cons (se_lc (own := [("k", 2)]) rfl sc_law_mirrored.nd (si_range1 (by rfl) z.range_ (sa_cons (se_callB call_len o_len (by rfl) z.len_ bt_len (sa_cons (se_var 1) sa_nil)) sa_nil)) (blkOk_by (by kernel_rfl)) (by simp) (fun _ _ _ _ _ => (sg_name (i := 2) sc_law_mirrored.nd rfl (by first | exact Or.inl rfl | exact Or.inr rfl))) (fun _ _ _ _ _ => sts_nil) (fun _ _ _ _ _ => (se_ix ix_seq o_ix (se_var 1) (se_op op_sub o_sub (se_op op_sub o_sub (se_callB call_len o_len (by rfl) z.len_ bt_len (sa_cons (se_var 1) sa_nil)) se_int) (se_var 2)) (fun _ _ => rfl)))) sa_nil)))) sa_nil))))
abbrev s_is_picture : Stmt := topS 7
abbrev N_is_picture : List Str := ["thing", "row", "cell"]
theorem sc_is_picture : FnScope N_is_picture ["thing"] (defScope s_is_picture) := ⟨rfl, rfl, rfl, by decide +kernel, rfl, by decide +kernel, by decide +kernel⟩
theorem d_is_picture {P : Program} {w : World} {K : PySem.W.Frag} {mg : Str → Option Value} {base : Heap} (z : Free mg) (M : Mods K mg) (h_is_whole : Callee P w K mg base 1 "is_whole" 3 F_is_whole) :
    BodyOk P w K mg base N_is_picture s_is_picture 1 b_is_picture := by
  intro qual f cdv A outer s H E hr tk hp
  exact
    (sb_cons (ss_if (st_bool (sw_or (st_not (st_val (se_callB call_isi o_isi (by rfl) z.isinstance_ bt_isinstance (sa_cons (se_var 0) (sa_cons (se_bty (by rfl) z.tuple_ bt_tuple) sa_nil))))) (sw_or1 (st_not (st_chain op_leA op_leA o_cmpI o_cmpI se_int (se_callB call_len o_len (by rfl) z.len_ bt_len (sa_cons (se_var 0) sa_nil)) (se_gintE (by rfl) M.c_SIDE))))))
    (sb_one (ss_ret se_bl))
    sb_nil)
    (sb_cons (ss_if (st_not (st_val (se_callB (cr_all rfl) o_bools (by rfl) z.all_ bt_all (sa_cons (se_lc (own := [("row", 1)]) rfl sc_is_picture.nd (si_seq (se_var 0)) (blkOk_by (by kernel_rfl)) (by simp) (fun _ _ _ _ _ => (sg_name (i := 1) sc_is_picture.nd rfl (by first | exact Or.inl rfl | exact Or.inr rfl))) (fun _ _ _ _ _ => sts_nil) (fun _ _ _ _ _ => (se_and (se_callB call_isi o_isi (by rfl) z.isinstance_ bt_isinstance (sa_cons (se_var 1) (sa_cons (se_bty (by rfl) z.tuple_ bt_tuple) sa_nil))) (se_one (se_chain op_leA op_leA o_cmpI o_cmpI se_int (se_callB call_len o_len (by rfl) z.len_ bt_len (sa_cons (se_var 1) sa_nil)) (se_gintE (by rfl) M.c_SIDE)))))) sa_nil))))
    (sb_one (ss_ret se_bl))
    sb_nil)
    (sb_cons (ss_if (st_not (st_val (se_callB (cr_all rfl) o_bools (by rfl) z.all_ bt_all (sa_cons (se_lc (own := [("row", 1)]) rfl sc_is_picture.nd (si_seq (se_var 0)) (blkOk_by (by kernel_rfl)) (by simp) (fun _ _ _ _ _ => (sg_name (i := 1) sc_is_picture.nd rfl (by first | exact Or.inl rfl | exact Or.inr rfl))) (fun _ _ _ _ _ => sts_nil) (fun _ _ _ _ _ => (se_cmp (op_eqD hr.units) o_eq (se_callB call_len o_len (by rfl) z.len_ bt_len (sa_cons (se_var 1) sa_nil)) (se_callB call_len o_len (by rfl) z.len_ bt_len (sa_cons (se_ix ix_seq o_ix (se_var 0) se_int (fun _ _ => rfl)) sa_nil)) (nomark _)))) sa_nil))))
    (sb_one (ss_ret se_bl))
    sb_nil)
    (sb_one (ss_ret (se_callB (cr_all rfl) o_bools (by rfl) z.all_ bt_all (sa_cons (se_lc (own := [("row", 1)]) rfl sc_is_picture.nd (si_seq (se_var 0)) (blkOk_by (by kernel_rfl)) (by simp) (fun _ _ _ _ _ => (sg_name (i := 1) sc_is_picture.nd rfl (by first | exact Or.inl rfl | exact Or.inr rfl))) (fun _ _ _ _ _ => sts_nil) (fun _ _ _ _ _ => (se_callB (cr_all rfl) o_bools (by rfl) z.all_ bt_all (sa_cons (se_lc (own := [("cell", 2)]) rfl sc_is_picture.nd (si_seq (se_var 1)) (blkOk_by (by kernel_rfl)) (by simp) (fun _ _ _ _ _ => (sg_name (i := 2) sc_is_picture.nd rfl (by first | exact Or.inl rfl | exact Or.inr rfl))) (fun _ _ _ _ _ => sts_nil) (fun _ _ _ _ _ => (se_fn h_is_whole hr (by decide) (by rfl) takesF (sa_cons (se_var 2) (sa_cons se_int (sa_cons (se_gintE (by rfl) M.c_GREAT) sa_nil)))))) sa_nil)))) sa_nil)))))))
abbrev s_kin_of : Stmt := topS 13
abbrev N_kin_of : List Str := ["rows", "made", "one", "turn"]
theorem sc_kin_of : FnScope N_kin_of ["rows"] (defScope s_kin_of) := ⟨rfl, rfl, rfl, by decide +kernel, rfl, by decide +kernel, by decide +kernel⟩
theorem d_kin_of {P : Program} {w : World} {K : PySem.W.Frag} {mg : Str → Option Value} {base : Heap} (z : Free mg) (M : Mods K mg) (h_mirrored_rows : Callee P w K mg base 1 "mirrored_rows" 1 F_mirrored_rows) (h_turned_rows : Callee P w K mg base 1 "turned_rows" 1 F_turned_rows) :
    BodyOk P w K mg base N_kin_of s_kin_of 1 b_kin_of := by
  intro qual f cdv A outer s H E hr tk hp
  exact
    (sb_cons (ss_set (i := 1) sc_kin_of.nd rfl (by first | exact Or.inl rfl | exact Or.inr rfl) (se_newL sa_nil))
    (sb_cons (ss_for hp rfl (si_seq (se_tup (sa_cons (se_var 0) (sa_cons (se_fn h_mirrored_rows hr (by decide) (by rfl) tk (sa_cons (se_var 0) sa_nil)) sa_nil)))) (sg_name (i := 2) sc_kin_of.nd rfl (by first | exact Or.inl rfl | exact Or.inr rfl))
    (sb_one (ss_for hp rfl (si_range1 (by rfl) z.range_ (sa_cons se_int sa_nil)) (sg_name (i := 3) sc_kin_of.nd rfl (by first | exact Or.inl rfl | exact Or.inr rfl))
    (sb_cons (ss_expr (se_methL PySem.F.slot_list_append PySem.F.type_list_append mt_append o_append (se_var 1) (sa_cons (se_var 2) sa_nil)))
    (sb_one (ss_set (i := 2) sc_kin_of.nd rfl (by first | exact Or.inl rfl | exact Or.inr rfl) (se_fn h_turned_rows hr (by decide) (by rfl) tk (sa_cons (se_var 2) sa_nil))))))))
    (sb_one (ss_ret (se_var 1)))))
abbrev s_law_mixed : Stmt := topS 18
abbrev N_law_mixed : List Str := ["script", "k", "many", "drawn"]
theorem sc_law_mixed : FnScope N_law_mixed ["script", "k", "many"] (defScope s_law_mixed) := ⟨rfl, rfl, rfl, by decide +kernel, rfl, by decide +kernel, by decide +kernel⟩
theorem d_law_mixed {P : Program} {w : World} {K : PySem.W.Frag} {mg : Str → Option Value} {base : Heap} (z : Free mg) (M : Mods K mg) (h_law_cell_at : Callee P w K mg base 1 "_law_cell_at" 2 F_law_cell_at) :
    BodyOk P w K mg base N_law_mixed s_law_mixed 1 b_law_mixed := by
  intro qual f cdv A outer s H E hr tk hp
  exact
    (sb_cons (ss_set (i := 3) sc_law_mixed.nd rfl (by first | exact Or.inl rfl | exact Or.inr rfl) (se_op op_mod o_mod (se_op op_mulA o_mul (se_op op_addA o_add (se_op op_addA o_add (se_fn h_law_cell_at hr (by decide) (by rfl) tk (sa_cons (se_var 0) (sa_cons (se_var 1) sa_nil))) (se_op op_mulA o_mul se_int (se_var 1))) se_int) se_int) se_int))
    (sb_one (ss_ret (se_op op_mod o_mod (se_op op_mod o_mod (se_op op_addA o_add (se_op op_addA o_add (se_op op_mulA o_mul (se_var 3) (se_var 3)) (se_op op_mulA o_mul se_int (se_var 3))) (se_var 1)) se_int) (se_var 2)))))
abbrev s_law_kin : Stmt := topS 24
abbrev N_law_kin : List Str := ["rows", "made", "front", "many"]
theorem sc_law_kin : FnScope N_law_kin ["rows"] (defScope s_law_kin) := ⟨rfl, rfl, rfl, by decide +kernel, rfl, by decide +kernel, by decide +kernel⟩
theorem d_law_kin {P : Program} {w : World} {K : PySem.W.Frag} {mg : Str → Option Value} {base : Heap} (z : Free mg) (M : Mods K mg) (h_law_mirrored : Callee P w K mg base 1 "_law_mirrored" 1 F_law_mirrored) (h_law_turned : Callee P w K mg base 1 "_law_turned" 1 F_law_turned) :
    BodyOk P w K mg base N_law_kin s_law_kin 1 b_law_kin := by
  intro qual f cdv A outer s H E hr tk hp
  exact
    (sb_cons (ss_set (i := 1) sc_law_kin.nd rfl (by first | exact Or.inl rfl | exact Or.inr rfl) (se_newL sa_nil))
    (sb_cons (ss_for hp rfl (si_seq (se_tup (sa_cons (se_var 0) (sa_cons (se_fn h_law_mirrored hr (by decide) (by rfl) tk (sa_cons (se_var 0) sa_nil)) sa_nil)))) (sg_name (i := 2) sc_law_kin.nd rfl (by first | exact Or.inl rfl | exact Or.inr rfl))
    (sb_one (ss_for hp rfl (si_range1 (by rfl) z.range_ (sa_cons se_int sa_nil)) (sg_name (i := 3) sc_law_kin.nd rfl (by first | exact Or.inl rfl | exact Or.inr rfl))
    (sb_cons (ss_expr (se_methL PySem.F.slot_list_append PySem.F.type_list_append mt_append o_append (se_var 1) (sa_cons (se_var 2) sa_nil)))
    (sb_one (ss_set (i := 2) sc_law_kin.nd rfl (by first | exact Or.inl rfl | exact Or.inr rfl) (se_fn h_law_turned hr (by decide) (by rfl) tk (sa_cons (se_var 2) sa_nil))))))))
    (sb_one (ss_ret (se_var 1)))))
abbrev s_need_picture : Stmt := topS 8
abbrev N_need_picture : List Str := ["thing"]
theorem sc_need_picture : FnScope N_need_picture ["thing"] (defScope s_need_picture) := ⟨rfl, rfl, rfl, by decide +kernel, rfl, by decide +kernel, by decide +kernel⟩
theorem d_need_picture {P : Program} {w : World} {K : PySem.W.Frag} {mg : Str → Option Value} {base : Heap} (z : Free mg) (M : Mods K mg) (h_is_picture : Callee P w K mg base 2 "is_picture" 1 F_is_picture) :
    BodyOk P w K mg base N_need_picture s_need_picture 2 b_need_picture := by
  intro qual f cdv A outer s H E hr tk hp
  exact
    (sb_one (ss_if (st_not (st_val (se_fn h_is_picture hr (by decide) (by rfl) tk (sa_cons (se_var 0) sa_nil))))
    (sb_one (ss_raiseE M.x_NoPicture rfl tk (by rfl)))
    sb_nil))
abbrev s_law_draw : Stmt := topS 19
abbrev N_law_draw : List Str := ["script", "town", "many"]
theorem sc_law_draw : FnScope N_law_draw ["script", "town", "many"] (defScope s_law_draw) := ⟨rfl, rfl, rfl, by decide +kernel, rfl, by decide +kernel, by decide +kernel⟩
theorem d_law_draw {P : Program} {w : World} {K : PySem.W.Frag} {mg : Str → Option Value} {base : Heap} (z : Free mg) (M : Mods K mg) (h_law_mixed : Callee P w K mg base 2 "_law_mixed" 3 F_law_mixed) :
    BodyOk P w K mg base N_law_draw s_law_draw 2 b_law_draw := by
  intro qual f cdv A outer s H E hr tk hp
  exact
    (sb_cons (ss_expr (se_methL PySem.F.slot_list_append PySem.F.type_list_append mt_append o_append (se_var 1) (sa_cons se_int sa_nil)))
    (sb_one (ss_ret (se_fn h_law_mixed hr (by decide) (by rfl) tk (sa_cons (se_var 0) (sa_cons (se_callB call_len o_len (by rfl) z.len_ bt_len (sa_cons (se_var 1) sa_nil)) (sa_cons (se_var 2) sa_nil)))))))
abbrev s_turned : Stmt := topS 11
abbrev N_turned : List Str := ["picture"]
theorem sc_turned : FnScope N_turned ["picture"] (defScope s_turned) := ⟨rfl, rfl, rfl, by decide +kernel, rfl, by decide +kernel, by decide +kernel⟩
theorem d_turned {P : Program} {w : World} {K : PySem.W.Frag} {mg : Str → Option Value} {base : Heap} (z : Free mg) (M : Mods K mg) (h_need_picture : Callee P w K mg base 3 "need_picture" 1 F_need_picture) (h_turned_rows : Callee P w K mg base 1 "turned_rows" 1 F_turned_rows) :
    BodyOk P w K mg base N_turned s_turned 3 b_turned := by
  intro qual f cdv A outer s H E hr tk hp
  exact
    (sb_cons (ss_expr (se_fn h_need_picture hr (by decide) (by rfl) tk (sa_cons (se_var 0) sa_nil)))
    (sb_one (ss_ret (se_fn h_turned_rows hr (by decide) (by rfl) tk (sa_cons (se_var 0) sa_nil)))))
abbrev s_mirrored : Stmt := topS 12
abbrev N_mirrored : List Str := ["picture"]
theorem sc_mirrored : FnScope N_mirrored ["picture"] (defScope s_mirrored) := ⟨rfl, rfl, rfl, by decide +kernel, rfl, by decide +kernel, by decide +kernel⟩
theorem d_mirrored {P : Program} {w : World} {K : PySem.W.Frag} {mg : Str → Option Value} {base : Heap} (z : Free mg) (M : Mods K mg) (h_mirrored_rows : Callee P w K mg base 1 "mirrored_rows" 1 F_mirrored_rows) (h_need_picture : Callee P w K mg base 3 "need_picture" 1 F_need_picture) :
    BodyOk P w K mg base N_mirrored s_mirrored 3 b_mirrored := by
  intro qual f cdv A outer s H E hr tk hp
  exact
    (sb_cons (ss_expr (se_fn h_need_picture hr (by decide) (by rfl) tk (sa_cons (se_var 0) sa_nil)))
    (sb_one (ss_ret (se_fn h_mirrored_rows hr (by decide) (by rfl) tk (sa_cons (se_var 0) sa_nil)))))
abbrev s_least_kin : Stmt := topS 14
abbrev N_least_kin : List Str := ["picture"]
theorem sc_least_kin : FnScope N_least_kin ["picture"] (defScope s_least_kin) := ⟨rfl, rfl, rfl, by decide +kernel, rfl, by decide +kernel, by decide +kernel⟩
theorem d_least_kin {P : Program} {w : World} {K : PySem.W.Frag} {mg : Str → Option Value} {base : Heap} (z : Free mg) (M : Mods K mg) (h_kin_of : Callee P w K mg base 2 "kin_of" 1 F_kin_of) (h_need_picture : Callee P w K mg base 3 "need_picture" 1 F_need_picture) :
    BodyOk P w K mg base N_least_kin s_least_kin 3 b_least_kin := by
  intro qual f cdv A outer s H E hr tk hp
  exact
    (sb_cons (ss_expr (se_fn h_need_picture hr (by decide) (by rfl) tk (sa_cons (se_var 0) sa_nil)))
    (sb_one (ss_ret (se_callB (cr_minP rfl (hu65 hr)) o_minT (by rfl) z.min_ bt_min (sa_cons (se_fn h_kin_of hr (by decide) (by rfl) tk (sa_cons (se_var 0) sa_nil)) sa_nil)))))
abbrev s_are_kin : Stmt := topS 15
abbrev N_are_kin : List Str := ["one", "other"]
theorem sc_are_kin : FnScope N_are_kin ["one", "other"] (defScope s_are_kin) := ⟨rfl, rfl, rfl, by decide +kernel, rfl, by decide +kernel, by decide +kernel⟩
theorem d_are_kin {P : Program} {w : World} {K : PySem.W.Frag} {mg : Str → Option Value} {base : Heap} (z : Free mg) (M : Mods K mg) (h_kin_of : Callee P w K mg base 2 "kin_of" 1 F_kin_of) (h_need_picture : Callee P w K mg base 3 "need_picture" 1 F_need_picture) :
    BodyOk P w K mg base N_are_kin s_are_kin 3 b_are_kin := by
  intro qual f cdv A outer s H E hr tk hp
  exact
    (sb_cons (ss_expr (se_fn h_need_picture hr (by decide) (by rfl) tk (sa_cons (se_var 0) sa_nil)))
    (sb_cons (ss_expr (se_fn h_need_picture hr (by decide) (by rfl) tk (sa_cons (se_var 1) sa_nil)))
    (sb_one (ss_ret (se_cmp (op_eqD hr.units) o_eq (se_callB (cr_minP rfl (hu65 hr)) o_minT (by rfl) z.min_ bt_min (sa_cons (se_fn h_kin_of hr (by decide) (by rfl) tk (sa_cons (se_var 0) sa_nil)) sa_nil)) (se_callB (cr_minP rfl (hu65 hr)) o_minT (by rfl) z.min_ bt_min (sa_cons (se_fn h_kin_of hr (by decide) (by rfl) tk (sa_cons (se_var 1) sa_nil)) sa_nil)) (nomark _))))))
abbrev s_law_pick : Stmt := topS 20
abbrev N_law_pick : List Str := ["script", "town", "some"]
theorem sc_law_pick : FnScope N_law_pick ["script", "town", "some"] (defScope s_law_pick) := ⟨rfl, rfl, rfl, by decide +kernel, rfl, by decide +kernel, by decide +kernel⟩
theorem d_law_pick {P : Program} {w : World} {K : PySem.W.Frag} {mg : Str → Option Value} {base : Heap} (z : Free mg) (M : Mods K mg) (h_law_draw : Callee P w K mg base 3 "_law_draw" 3 F_law_draw) :
    BodyOk P w K mg base N_law_pick s_law_pick 3 b_law_pick := by
  intro qual f cdv A outer s H E hr tk hp
  exact
    (sb_one (ss_ret (se_ix ix_seq o_ix (se_var 2) (se_fn h_law_draw hr (by decide) (by rfl) tk (sa_cons (se_var 0) (sa_cons (se_var 1) (sa_cons (se_callB call_len o_len (by rfl) z.len_ bt_len (sa_cons (se_var 2) sa_nil)) sa_nil)))) (fun _ _ => rfl))))
abbrev s_law_picture : Stmt := topS 21
abbrev N_law_picture : List Str := ["script", "town", "most", "width", "height", "few", "j", "k"]
theorem sc_law_picture : FnScope N_law_picture ["script", "town", "most"] (defScope s_law_picture) := ⟨rfl, rfl, rfl, by decide +kernel, rfl, by decide +kernel, by decide +kernel⟩
theorem d_law_picture {P : Program} {w : World} {K : PySem.W.Frag} {mg : Str → Option Value} {base : Heap} (z : Free mg) (M : Mods K mg) (h_law_draw : Callee P w K mg base 3 "_law_draw" 3 F_law_draw) (h_law_pick : Callee P w K mg base 4 "_law_pick" 3 F_law_pick) :
    BodyOk P w K mg base N_law_picture s_law_picture 4 b_law_picture := by
  intro qual f cdv A outer s H E hr tk hp
  exact
    (sb_cons (ss_set (i := 3) sc_law_picture.nd rfl (by first | exact Or.inl rfl | exact Or.inr rfl) (se_op op_addA o_add se_int (se_fn h_law_draw hr (by decide) (by rfl) tk (sa_cons (se_var 0) (sa_cons (se_var 1) (sa_cons (se_var 2) sa_nil))))))
    (sb_cons (ss_set (i := 4) sc_law_picture.nd rfl (by first | exact Or.inl rfl | exact Or.inr rfl) (se_fn h_law_pick hr (by decide) (by rfl) tk (sa_cons (se_var 0) (sa_cons (se_var 1) (sa_cons (se_lst (sa_cons (se_var 3) (sa_cons (se_op op_addA o_add se_int (se_fn h_law_draw hr (by decide) (by rfl) tk (sa_cons (se_var 0) (sa_cons (se_var 1) (sa_cons (se_var 2) sa_nil))))) sa_nil))) sa_nil)))))
    (sb_cons (ss_set (i := 5) sc_law_picture.nd rfl (by first | exact Or.inl rfl | exact Or.inr rfl) (se_fn h_law_pick hr (by decide) (by rfl) tk (sa_cons (se_var 0) (sa_cons (se_var 1) (sa_cons (se_lst (sa_cons se_int (sa_cons se_int (sa_cons se_int sa_nil)))) sa_nil)))))
    (sb_one (ss_ret (se_callTy call_tuple_of o_tuple (by rfl) z.tuple_ bt_tuple (sa_cons (se_lc (own := [("j", 6)]) rfl sc_law_picture.nd (si_range1 (by rfl) z.range_ (sa_cons (se_var 4) sa_nil)) (blkOk_by (by kernel_rfl)) (by simp) (fun _ _ _ _ _ => (sg_name (i := 6) sc_law_picture.nd rfl (by first | exact Or.inl rfl | exact Or.inr rfl))) (fun _ _ _ _ _ => sts_nil) (fun _ _ _ _ _ => (se_callTy call_tuple_of o_tuple (by rfl) z.tuple_ bt_tuple (sa_cons (se_lc (own := [("k", 7)]) rfl sc_law_picture.nd (si_range1 (by rfl) z.range_ (sa_cons (se_var 3) sa_nil)) (blkOk_by (by kernel_rfl)) (by simp) (fun _ _ _ _ _ => (sg_name (i := 7) sc_law_picture.nd rfl (by first | exact Or.inl rfl | exact Or.inr rfl))) (fun _ _ _ _ _ => sts_nil) (fun _ _ _ _ _ => (se_fn h_law_draw hr (by decide) (by rfl) takesF (sa_cons (se_var 0) (sa_cons (se_var 1) (sa_cons (se_var 5) sa_nil)))))) sa_nil)))) sa_nil)))))))
abbrev s_law : Stmt := topS 25
abbrev N_law : List Str := ["script", "town", "picture", "other", "third", "one", "made", "k", "row", "due"]
theorem sc_law : FnScope N_law ["script"] (defScope s_law) := ⟨rfl, rfl, rfl, by decide +kernel, rfl, by decide +kernel, by decide +kernel⟩
theorem d_law {P : Program} {w : World} {K : PySem.W.Frag} {mg : Str → Option Value} {base : Heap} (z : Free mg) (M : Mods K mg) (h_law_draw : Callee P w K mg base 3 "_law_draw" 3 F_law_draw) (h_law_kin : Callee P w K mg base 2 "_law_kin" 1 F_law_kin) (h_law_pick : Callee P w K mg base 4 "_law_pick" 3 F_law_pick) (h_law_picture : Callee P w K mg base 5 "_law_picture" 3 F_law_picture) (h_are_kin : Callee P w K mg base 4 "are_kin" 2 F_are_kin) (h_least_kin : Callee P w K mg base 4 "least_kin" 1 F_least_kin) (h_mirrored : Callee P w K mg base 4 "mirrored" 1 F_mirrored) (h_turned : Callee P w K mg base 4 "turned" 1 F_turned) :
    BodyOk P w K mg base N_law s_law 5 b_law := by
  intro qual f cdv A outer s H E hr tk hp
  exact
    (sb_cons (ss_set (i := 1) sc_law.nd rfl (by first | exact Or.inl rfl | exact Or.inr rfl) (se_newL sa_nil))
    (sb_cons (ss_set (i := 2) sc_law.nd rfl (by first | exact Or.inl rfl | exact Or.inr rfl) (se_fn h_law_picture hr (by decide) (by rfl) tk (sa_cons (se_var 0) (sa_cons (se_var 1) (sa_cons se_int sa_nil)))))
    (sb_cons (ss_set (i := 3) sc_law.nd rfl (by first | exact Or.inl rfl | exact Or.inr rfl) (se_fn h_law_pick hr (by decide) (by rfl) tk (sa_cons (se_var 0) (sa_cons (se_var 1) (sa_cons (se_fn h_law_kin hr (by decide) (by rfl) tk (sa_cons (se_var 2) sa_nil)) sa_nil)))))
    (sb_cons (ss_if (st_cmp (op_eqD hr.units) o_eq (se_fn h_law_draw hr (by decide) (by rfl) tk (sa_cons (se_var 0) (sa_cons (se_var 1) (sa_cons se_int sa_nil)))) se_int (nomark _))
    (sb_cons (ss_set (i := 8) sc_law.nd rfl (by first | exact Or.inl rfl | exact Or.inr rfl) (se_callTy call_list_of o_listN (by rfl) z.list_ bt_list (sa_cons (se_ix ix_seq o_ix (se_var 3) se_int (fun _ _ => rfl)) sa_nil)))
    (sb_cons (ss_lput (se_fn h_law_draw hr (by decide) (by rfl) tk (sa_cons (se_var 0) (sa_cons (se_var 1) (sa_cons se_int sa_nil)))) (se_var 8) (se_fn h_law_draw hr (by decide) (by rfl) tk (sa_cons (se_var 0) (sa_cons (se_var 1) (sa_cons (se_callB call_len o_len (by rfl) z.len_ bt_len (sa_cons (se_var 8) sa_nil)) sa_nil)))))
    (sb_one (ss_set (i := 3) sc_law.nd rfl (by first | exact Or.inl rfl | exact Or.inr rfl) (se_op op_addA o_add (se_tup (sa_cons (se_callTy call_tuple_of o_tuple (by rfl) z.tuple_ bt_tuple (sa_cons (se_var 8) sa_nil)) sa_nil)) (se_slc (se_var 3) (so_some se_int) so_none))))))
    sb_nil)
    (sb_cons (ss_set (i := 4) sc_law.nd rfl (by first | exact Or.inl rfl | exact Or.inr rfl) (se_fn h_law_picture hr (by decide) (by rfl) tk (sa_cons (se_var 0) (sa_cons (se_var 1) (sa_cons se_int sa_nil)))))
    (sb_cons (ss_for hp rfl (si_seq (se_tup (sa_cons (se_var 3) (sa_cons (se_var 4) sa_nil)))) (sg_name (i := 5) sc_law.nd rfl (by first | exact Or.inl rfl | exact Or.inr rfl))
    (sb_cons (ss_set (i := 9) sc_law.nd rfl (by first | exact Or.inl rfl | exact Or.inr rfl) (se_cmp (op_inA (hu65 hr)) o_in (se_var 5) (se_fn h_law_kin hr (by decide) (by rfl) tk (sa_cons (se_var 2) sa_nil)) (by rfl)))
    (sb_cons (ss_if (st_bool (sw_or (st_cmp (op_neD hr.units) o_ne (se_fn h_are_kin hr (by decide) (by rfl) tk (sa_cons (se_var 2) (sa_cons (se_var 5) sa_nil))) (se_var 9) (nomark _)) (sw_or (st_cmp (op_neD hr.units) o_ne (se_fn h_are_kin hr (by decide) (by rfl) tk (sa_cons (se_var 5) (sa_cons (se_var 2) sa_nil))) (se_var 9) (nomark _)) (sw_or1 (st_not (st_val (se_callB call_isi o_isi (by rfl) z.isinstance_ bt_isinstance (sa_cons (se_fn h_are_kin hr (by decide) (by rfl) tk (sa_cons (se_var 2) (sa_cons (se_var 5) sa_nil))) (sa_cons (se_bty (by rfl) z.bool_ bt_bool) sa_nil)))))))))
    (sb_one (ss_ret se_bl))
    sb_nil)
    (sb_one (ss_if (st_bool (sw_or (st_cmp (op_neD hr.units) o_ne (se_cmp (op_eqD hr.units) o_eq (se_fn h_least_kin hr (by decide) (by rfl) tk (sa_cons (se_var 5) sa_nil)) (se_fn h_least_kin hr (by decide) (by rfl) tk (sa_cons (se_var 2) sa_nil)) (nomark _)) (se_var 9) (nomark _)) (sw_or1 (st_cmp (op_neD hr.units) o_ne (se_fn h_least_kin hr (by decide) (by rfl) tk (sa_cons (se_var 5) sa_nil)) (se_callB (cr_minP rfl (hu65 hr)) o_minT (by rfl) z.min_ bt_min (sa_cons (se_fn h_law_kin hr (by decide) (by rfl) tk (sa_cons (se_var 5) sa_nil)) sa_nil)) (nomark _)))))
    (sb_one (ss_ret se_bl))
    sb_nil)))))
    (sb_cons (ss_set (i := 6) sc_law.nd rfl (by first | exact Or.inl rfl | exact Or.inr rfl) (se_var 2))
    (sb_cons (ss_for hp rfl (si_range1 (by rfl) z.range_ (sa_cons se_int sa_nil)) (sg_name (i := 7) sc_law.nd rfl (by first | exact Or.inl rfl | exact Or.inr rfl))
    (sb_cons (ss_if (st_bool (sw_or (st_cmp (op_neD hr.units) o_ne (se_fn h_least_kin hr (by decide) (by rfl) tk (sa_cons (se_var 6) sa_nil)) (se_fn h_least_kin hr (by decide) (by rfl) tk (sa_cons (se_var 2) sa_nil)) (nomark _)) (sw_or1 (st_cmp (op_neD hr.units) o_ne (se_fn h_mirrored hr (by decide) (by rfl) tk (sa_cons (se_fn h_mirrored hr (by decide) (by rfl) tk (sa_cons (se_var 6) sa_nil)) sa_nil)) (se_var 6) (nomark _)))))
    (sb_one (ss_ret se_bl))
    sb_nil)
    (sb_cons (ss_if (st_cmp (op_neD hr.units) o_ne (se_fn h_mirrored hr (by decide) (by rfl) tk (sa_cons (se_fn h_turned hr (by decide) (by rfl) tk (sa_cons (se_fn h_mirrored hr (by decide) (by rfl) tk (sa_cons (se_var 6) sa_nil)) sa_nil)) sa_nil)) (se_fn h_turned hr (by decide) (by rfl) tk (sa_cons (se_fn h_turned hr (by decide) (by rfl) tk (sa_cons (se_fn h_turned hr (by decide) (by rfl) tk (sa_cons (se_var 6) sa_nil)) sa_nil)) sa_nil)) (nomark _))
    (sb_one (ss_ret se_bl))
    sb_nil)
    (sb_one (ss_set (i := 6) sc_law.nd rfl (by first | exact Or.inl rfl | exact Or.inr rfl) (se_fn h_turned hr (by decide) (by rfl) tk (sa_cons (se_var 6) sa_nil)))))))
    (sb_one (ss_ret (se_cmp (op_eqD hr.units) o_eq (se_var 6) (se_var 2) (nomark _))))))))))))
structure Txt (K : PySem.W.Frag) : Prop where
  t_is_whole : DefF K "is_whole" s_is_whole
  t_turned_rows : DefF K "turned_rows" s_turned_rows
  t_mirrored_rows : DefF K "mirrored_rows" s_mirrored_rows
  t_law_cell_at : DefF K "_law_cell_at" s_law_cell_at
  t_law_turned : DefF K "_law_turned" s_law_turned
  t_law_mirrored : DefF K "_law_mirrored" s_law_mirrored
  t_is_picture : DefF K "is_picture" s_is_picture
  t_kin_of : DefF K "kin_of" s_kin_of
  t_law_mixed : DefF K "_law_mixed" s_law_mixed
  t_law_kin : DefF K "_law_kin" s_law_kin
  t_need_picture : DefF K "need_picture" s_need_picture
  t_law_draw : DefF K "_law_draw" s_law_draw
  t_turned : DefF K "turned" s_turned
  t_mirrored : DefF K "mirrored" s_mirrored
  t_least_kin : DefF K "least_kin" s_least_kin
  t_are_kin : DefF K "are_kin" s_are_kin
  t_law_pick : DefF K "_law_pick" s_law_pick
  t_law_picture : DefF K "_law_picture" s_law_picture
  t_law : DefF K "law" s_law
theorem all_ok {P : Program} {w : World} {K : PySem.W.Frag} {mg : Str → Option Value} {h : Heap} {fa : Addr} (X : K.In h) (G : h.Ns mainGlobals mg) (hm : mg "law" = some (.ref fa)) (T : Txt K) (z : Free mg) (M : Mods K mg)
    (hF : ∀ ns : List Int, ns.length ≤ 63 → ∃ S, fnS 1 10 b_law [.fz (ns.map .int)] [] = .ok (.bl true) S) :
    ∃ fd : FuncData, (∀ (s : Shared) (u : Value), BindsTo s fd ⟨[u], []⟩ [("script", u)]) ∧ ∀ base : Heap, K.In base → base.Ns mainGlobals mg → FnOk P w K mg base (L2N.CX P w) 6 fa fd ["script"] (spEnd K) := by
  obtain ⟨kV, doc, pm, an, cdv, ct, FL⟩ := T.t_law.law X G hm
  refine ⟨PySem.W.fnOf "law" "law" (defArgs s_law) (defBody s_law) (defScope s_law) .none kV doc pm an cdv ct, fun s u => .of_eq rfl, fun base _ _ => ?_⟩
  have h_is_whole : Callee P w K mg base 1 "is_whole" 3 F_is_whole := callS (T.t_is_whole.at0 X G fun _ _ _ _ _ _ us hl => match us, hl with | [_, _, _], _ => rfl) sc_is_whole (d_is_whole z M )
  have h_turned_rows : Callee P w K mg base 1 "turned_rows" 1 F_turned_rows := callS (T.t_turned_rows.at0 X G fun _ _ _ _ _ _ us hl => match us, hl with | [_], _ => rfl) sc_turned_rows (d_turned_rows z M )
  have h_mirrored_rows : Callee P w K mg base 1 "mirrored_rows" 1 F_mirrored_rows := callS (T.t_mirrored_rows.at0 X G fun _ _ _ _ _ _ us hl => match us, hl with | [_], _ => rfl) sc_mirrored_rows (d_mirrored_rows z M )
  have h_law_cell_at : Callee P w K mg base 1 "_law_cell_at" 2 F_law_cell_at := callS (T.t_law_cell_at.at0 X G fun _ _ _ _ _ _ us hl => match us, hl with | [_, _], _ => rfl) sc_law_cell_at (d_law_cell_at z M )
  have h_law_turned : Callee P w K mg base 1 "_law_turned" 1 F_law_turned := callS (T.t_law_turned.at0 X G fun _ _ _ _ _ _ us hl => match us, hl with | [_], _ => rfl) sc_law_turned (d_law_turned z M )
  have h_law_mirrored : Callee P w K mg base 1 "_law_mirrored" 1 F_law_mirrored := callS (T.t_law_mirrored.at0 X G fun _ _ _ _ _ _ us hl => match us, hl with | [_], _ => rfl) sc_law_mirrored (d_law_mirrored z M )
  have h_is_picture : Callee P w K mg base 2 "is_picture" 1 F_is_picture := callS (T.t_is_picture.at0 X G fun _ _ _ _ _ _ us hl => match us, hl with | [_], _ => rfl) sc_is_picture (d_is_picture z M h_is_whole)
  have h_kin_of : Callee P w K mg base 2 "kin_of" 1 F_kin_of := callD (T.t_kin_of.at0 X G fun _ _ _ _ _ _ us hl => match us, hl with | [_], _ => rfl) sc_kin_of (d_kin_of z M h_mirrored_rows h_turned_rows)
  have h_law_mixed : Callee P w K mg base 2 "_law_mixed" 3 F_law_mixed := callS (T.t_law_mixed.at0 X G fun _ _ _ _ _ _ us hl => match us, hl with | [_, _, _], _ => rfl) sc_law_mixed (d_law_mixed z M h_law_cell_at)
  have h_law_kin : Callee P w K mg base 2 "_law_kin" 1 F_law_kin := callD (T.t_law_kin.at0 X G fun _ _ _ _ _ _ us hl => match us, hl with | [_], _ => rfl) sc_law_kin (d_law_kin z M h_law_mirrored h_law_turned)
  have h_need_picture : Callee P w K mg base 3 "need_picture" 1 F_need_picture := callS (T.t_need_picture.at0 X G fun _ _ _ _ _ _ us hl => match us, hl with | [_], _ => rfl) sc_need_picture (d_need_picture z M h_is_picture)
  have h_law_draw : Callee P w K mg base 3 "_law_draw" 3 F_law_draw := callS (T.t_law_draw.at0 X G fun _ _ _ _ _ _ us hl => match us, hl with | [_, _, _], _ => rfl) sc_law_draw (d_law_draw z M h_law_mixed)
  have h_turned : Callee P w K mg base 4 "turned" 1 F_turned := callS (T.t_turned.at0 X G fun _ _ _ _ _ _ us hl => match us, hl with | [_], _ => rfl) sc_turned (d_turned z M h_need_picture h_turned_rows)
  have h_mirrored : Callee P w K mg base 4 "mirrored" 1 F_mirrored := callS (T.t_mirrored.at0 X G fun _ _ _ _ _ _ us hl => match us, hl with | [_], _ => rfl) sc_mirrored (d_mirrored z M h_mirrored_rows h_need_picture)
  have h_least_kin : Callee P w K mg base 4 "least_kin" 1 F_least_kin := callS (T.t_least_kin.at0 X G fun _ _ _ _ _ _ us hl => match us, hl with | [_], _ => rfl) sc_least_kin (d_least_kin z M h_kin_of h_need_picture)
  have h_are_kin : Callee P w K mg base 4 "are_kin" 2 F_are_kin := callS (T.t_are_kin.at0 X G fun _ _ _ _ _ _ us hl => match us, hl with | [_, _], _ => rfl) sc_are_kin (d_are_kin z M h_kin_of h_need_picture)
  have h_law_pick : Callee P w K mg base 4 "_law_pick" 3 F_law_pick := callS (T.t_law_pick.at0 X G fun _ _ _ _ _ _ us hl => match us, hl with | [_, _, _], _ => rfl) sc_law_pick (d_law_pick z M h_law_draw)
  have h_law_picture : Callee P w K mg base 5 "_law_picture" 3 F_law_picture := callS (T.t_law_picture.at0 X G fun _ _ _ _ _ _ us hl => match us, hl with | [_, _, _], _ => rfl) sc_law_picture (d_law_picture z M h_law_draw h_law_pick)
  exact end_law FL sc_law (d_law z M h_law_draw h_law_kin h_law_pick h_law_picture h_are_kin h_least_kin h_mirrored h_turned) hF
end Py
set_option maxRecDepth 100000
set_option maxHeartbeats 4000000
namespace Py
open PySem PySem.Spec PyProof.Rows L2
theorem eqD_bls (neg a b : Bool) (S : Sto) : eqD neg (.bl a) (.bl b) S = .ok (.bl (if neg then !(a == b) else a == b)) S := eqD_bl neg a b S
theorem all_pl {x : Pic} : (kinD x).all (pl 11) = true := by
  rw [List.all_eq_true]
  intro d hd
  obtain ⟨s, g, rfl⟩ := kin_G d hd
  exact pl_grid
theorem isi_blb (b : Bool) (S : Sto) : isiD [.bl b, .ty "bool"] S = .ok (.bl true) S := by
  rfl
def setP (y : Pic) (k : Nat) (v : Int) : Pic := (y.1, fun p => if p = (0, k) then v else y.2 p)
theorem setP_ok {y : Pic} (hy : OkP y) {k : Nat} {v : Int} (h0 : 0 ≤ v) (h9 : v ≤ 9) : OkP (setP y k v) := ⟨hy.1, fun j i hj hi => by
  simp only [setP]
  split
  · exact ⟨h0, h9⟩
  · exact hy.2 j i hj hi⟩
theorem cut1 {n : Nat} {f : Nat → D} (h : 0 < n) {x : D} : x :: cutD (tb n f) (some (1 : Int)) none = tb n (fun k => if k = 0 then x else f k) := by
  have := tb_upd (n := n) (a := 0) (f := f) (x := x) h
  simp only [Int.ofNat_eq_natCast, Int.natCast_zero, Int.zero_add] at this
  rw [← this]
  have z : cutD (tb n f) none (some (0 : Int)) = [] := by
    unfold cutD
    rw [show (some (0 : Int)) = some ((0 : Nat) : Int) from rfl, HT.sIx_nat, HT.sIx_none]
    simp
  have z' : cutD (tb n f) none (some ((0 : Nat) : Int)) = [] := z
  simp [z]
theorem set_first {y : Pic} (hy : OkP y) {k : Nat} {v : Int} (hk : k < y.1.1) (S : Sto) :
    addD (.tup [.tup ((tb y.1.1 fun i => D.int (y.2 (0, i))).set k (.int v))]) (.tup (cutD (tb y.1.2 fun j => .tup (tb y.1.1 fun i => .int (y.2 (j, i)))) (some (1 : Int)) none)) S = .ok (gr (setP y k v)) S := by
  have h8 := hy.1.2.2.2
  rw [add_tup (by have := cut_len (xs := tb y.1.2 fun j => D.tup (tb y.1.1 fun i => .int (y.2 (j, i)))) (lo := some (1 : Int)) (hi := none); simp at this ⊢; omega)]
  rw [List.singleton_append, cut1 hy.1.2.1, tb_set]
  congr 1
  unfold gr gridI gridD setP
  congr 1
  refine tb_congr fun j hj => ?_
  by_cases c : j = 0
  · subst c
    rw [if_pos rfl]
    congr 1
    refine tb_congr fun i hi => ?_
    by_cases c2 : i = k
    · subst c2; simp
    · rw [if_neg c2]; simp [c2]
  · rw [if_neg c]
    congr 1
    refine tb_congr fun i hi => ?_
    simp [c]
open Classical in
theorem loop_one {it : Its} (hi : it.guard = none) {x : Pic} (hx : OkP x) (S : Sto) (ns : List Int) : ∀ (ys : List Pic), (∀ y ∈ ys, OkP y) → ∀ (o3 o4 o5 o6 o7 o8 o9 : Option D),
    ∃ a b, loopF it (gN 5) (sSeq (sSet 9 (e2 (inD false) (eVar 5) (eCall F_law_kin (aCons (eVar 2) aNil))))
    (sSeq (sIf (tOrM (tVal (e2 (eqD true) (eCall F_are_kin (aCons (eVar 2) (aCons (eVar 5) aNil))) (eVar 9))) (tOrM (tVal (e2 (eqD true) (eCall F_are_kin (aCons (eVar 5) (aCons (eVar 2) aNil))) (eVar 9))) (tNotM (tVal (eCall isiD (aCons (eCall F_are_kin (aCons (eVar 2) (aCons (eVar 5) aNil))) (aCons (eC (.ty "bool")) aNil)))))))
    (sRet (eC (.bl false)))
    sNil)
    (sIf (tOrM (tVal (e2 (eqD true) (e2 (eqD false) (eCall F_least_kin (aCons (eVar 5) aNil)) (eCall F_least_kin (aCons (eVar 2) aNil))) (eVar 9))) (tVal (e2 (eqD true) (eCall F_least_kin (aCons (eVar 5) aNil)) (eCall minTD (aCons (eCall F_law_kin (aCons (eVar 5) aNil)) aNil)))))
    (sRet (eC (.bl false)))
    sNil))) (ys.map gr) [some (scr ns), some (.ref 0), some (gr x), o3, o4, o5, o6, o7, o8, o9] S = .nx [some (scr ns), some (.ref 0), some (gr x), o3, o4, a, o6, o7, o8, b] S
  | [], h, o3, o4, o5, o6, o7, o8, o9 => ⟨o5, o9, by rw [List.map_nil, loopF_nil hi]⟩
  | y :: ys, h, o3, o4, o5, o6, o7, o8, o9 => by
    have hy := h y (List.mem_cons_self ..)
    obtain ⟨a, b, ih⟩ := loop_one hi hx S ns ys (fun z hz => h z (List.mem_cons_of_mem _ hz)) o3 o4 (some (gr y)) o6 o7 o8 (some (.bl (decide (gr y ∈ kinD x))))
    refine ⟨a, b, ?_⟩
    rw [List.map_cons, loopF_cons hi (g := gN 5) (fr1 := [some (scr ns), some (.ref 0), some (gr x), o3, o4, some (gr y), o6, o7, o8, o9]) rfl ?_ (fr2 := _) (S2 := S)]
    · exact ih
    · rw [sq_set (S1 := S) (d := .bl (decide (gr y ∈ kinD x))) (by simp [H_kin hx, in_plL (pl_gr 8 y) all_pl])]
      simp only [List.set_cons_succ, List.set_cons_zero]
      have k1 := G_are hx hy S
      have k2 := G_are hy hx S
      have cm : decide (gr x ∈ kinD y) = decide (gr y ∈ kinD x) := decide_eq_decide.2 (kin_comm hy hx)
      rw [cm] at k2
      have e1 := eq_least hy hx false S
      rw [cm] at e1
      clear ih
      generalize decide (gr y ∈ kinD x) = B at *
      rw [sq_f (S1 := S) (by simp [k1, k2, eqD_bls, isi_blb])]
      have e2' := ne_self (S := S) (pl_least 9 y)
      simp [sIf, G_least hx, G_least hy, e1, eqD_bls, H_kin hy, min_kin, e2', sNil]
theorem step_made {x y : Pic} (hx : OkP x) (hy : y ∈ kinL x) (S : Sto) (ns : List Int) (o3 o4 o5 o7 o8 o9 : Option D) :
    (sSeq (sIf (tOrM (tVal (e2 (eqD true) (eCall F_least_kin (aCons (eVar 6) aNil)) (eCall F_least_kin (aCons (eVar 2) aNil)))) (tVal (e2 (eqD true) (eCall F_mirrored (aCons (eCall F_mirrored (aCons (eVar 6) aNil)) aNil)) (eVar 6))))
    (sRet (eC (.bl false)))
    sNil)
    (sSeq (sIf (tVal (e2 (eqD true) (eCall F_mirrored (aCons (eCall F_turned (aCons (eCall F_mirrored (aCons (eVar 6) aNil)) aNil)) aNil)) (eCall F_turned (aCons (eCall F_turned (aCons (eCall F_turned (aCons (eVar 6) aNil)) aNil)) aNil))))
    (sRet (eC (.bl false)))
    sNil)
    (sSet 6 (eCall F_turned (aCons (eVar 6) aNil))))) [some (scr ns), some (.ref 0), some (gr x), o3, o4, o5, some (gr y), o7, o8, o9] S = .nx [some (scr ns), some (.ref 0), some (gr x), o3, o4, o5, some (gr (tn y)), o7, o8, o9] S := by
  have oy := kinL_ok hx hy
  have hl : least y = least x := leastD_congr fun d => kinL_kin hx hy d
  have e1 := ne_self (S := S) (pl_least 9 x)
  have e2' := ne_self (S := S) (pl_gr 9 y)
  have m2 := mi2 (x := y)
  have mt : gr (mi (tn (mi y))) = gr (tn (tn (tn y))) := by
    rw [mi_tn]
    exact tn_congr oy.mi.mi.tn.tn.1.2.1 (tn_congr oy.mi.mi.tn.1.2.1 (tn_congr oy.mi.mi.1.2.1 mi2))
  rw [sq_f (S1 := S) (by simp [G_least oy, G_least hx, hl, e1, G_mirroredP oy, G_mirroredP oy.mi, m2, e2'])]
  rw [sq_f (S1 := S) (by simp [G_mirroredP oy, G_turnedP oy.mi, G_mirroredP oy.mi.tn, G_turnedP oy, G_turnedP oy.tn, G_turnedP oy.tn.tn, mt, ne_self (S := S) (pl_gr 9 (tn (tn (tn y))))])]
  simp [sSet, G_turnedP oy]
theorem law_true (ns : List Int) (hn : ns.length ≤ 63) : ∃ S, fnS 1 10 b_law [.fz (ns.map .int)] [] = .ok (.bl true) S := by
  have e : fnS 1 10 b_law [.fz (ns.map .int)] [] = bodyRes (b_law [some (scr ns), none, none, none, none, none, none, none, none, none] []) := rfl
  rw [e]
  unfold b_law
  obtain ⟨s, g, n1, hs, _, _, hc, hn1, hp⟩ := G_picture ns 0 8 (by decide) (by decide) (by decide) []
  generalize hxe : ((s, g) : Pic) = x
  have hx : OkP x := hxe ▸ ⟨hs, hc⟩
  have hp : F_law_picture [scr ns, .ref 0, .int 8] (Tn 0 []) = .ok (gr x) (Tn n1 []) := by rw [← hxe]; exact hp
  rw [sq_set (S1 := Tn 0 []) (d := .ref 0) (by simp)]
  simp only [List.set_cons_succ, List.set_cons_zero]
  rw [sq_set (S1 := Tn n1 []) (d := gr x) (by simp; exact hp)]
  simp only [List.set_cons_succ, List.set_cons_zero]
  obtain ⟨j, hj, hpk⟩ := F_pick ns n1 (by omega) [] (ds := kinD x) (by simp [kinD, kinL])
  obtain ⟨y, hy, ey⟩ := List.mem_map.1 (List.getElem_mem hj)
  have oy := kinL_ok hx hy
  rw [sq_set (S1 := Tn (n1 + 1) []) (d := gr y) (by simp [H_kin hx, hpk, ey])]
  simp only [List.set_cons_succ, List.set_cons_zero]
  obtain ⟨c, hc2, dr⟩ := F_drawN ns (n1 + 1) (many := 2) (by decide) (by omega) []
  -- the changed one
  have key : ∃ (z : Pic) (n2 : Nat) (rest : Sto) (o8 : Option D), OkP z ∧ n2 ≤ n1 + 4 ∧
      (sIf (tVal (e2 (eqD false) (eCall F_law_draw (aCons (eVar 0) (aCons (eVar 1) (aCons (eC (.int 2)) aNil)))) (eC (.int 0))))
    (sSeq (sSet 8 (eCall listN (aCons (e2 ixD (eVar 3) (eC (.int 0))) aNil)))
    (sSeq (sLput (eCall F_law_draw (aCons (eVar 0) (aCons (eVar 1) (aCons (eC (.int 10)) aNil)))) (eVar 8) (eCall F_law_draw (aCons (eVar 0) (aCons (eVar 1) (aCons (eCall lenD (aCons (eVar 8) aNil)) aNil)))))
    (sSet 3 (e2 addD (eTup (aCons (eCall tupleD (aCons (eVar 8) aNil)) aNil)) (eSlc (eVar 3) (oSome (eC (.int 1))) oNone)))))
    sNil) [some (scr ns), some (.ref 0), some (gr x), some (gr y), none, none, none, none, none, none] (Tn (n1 + 1) []) = .nx [some (scr ns), some (.ref 0), some (gr x), some (gr z), none, none, none, none, o8, none] (Tn n2 rest) := by
    by_cases c0 : c = 0
    · subst c0
      have r0 : ∀ S, ixD (gr y) (.int 0) S = .ok (.tup (tb y.1.1 fun k => .int (y.2 (0, k)))) S := fun S => g_row (f := fun p => .int (y.2 p)) rfl oy.1.2.1
      obtain ⟨v, hv, dv⟩ := F_drawN ns (n1 + 2) (many := 10) (by decide) (by omega) [.lst (tb y.1.1 fun k => .int (y.2 (0, k)))]
      obtain ⟨k, hk, dk⟩ := F_drawN ns (n1 + 3) (many := y.1.1) oy.1.1 (by omega) [.lst (tb y.1.1 fun k => .int (y.2 (0, k)))]
      have h8 := oy.1.2.2.1
      refine ⟨setP y k v, n1 + 4, [.lst ((tb y.1.1 fun i => D.int (y.2 (0, i))).set k (.int v))], some (.ref 1), setP_ok oy (by omega) (by omega), by omega, ?_⟩
      have hd : (tVal (e2 (eqD false) (eCall F_law_draw (aCons (eVar 0) (aCons (eVar 1) (aCons (eC (.int 2)) aNil)))) (eC (.int 0)))) [some (scr ns), some (.ref 0), some (gr x), some (gr y), none, none, none, none, none, none] (Tn (n1 + 1) []) = .ok true (Tn (n1 + 2) []) := by
        have dr' : F_law_draw [scr ns, .ref 0, .int 2] (Tn (n1 + 1) []) = .ok (.int 0) (Tn (n1 + 2) []) := dr
        simp [dr']
      simp only [sIf, hd, Res.then_ok, if_true]
      rw [sq_set (S1 := Tn (n1 + 2) [.lst (tb y.1.1 fun k => .int (y.2 (0, k)))]) (d := .ref 1) (by simp [r0, listN, seqOf])]
      simp only [List.set_cons_succ, List.set_cons_zero]
      have hput := lput_eq (f := eCall F_law_draw (aCons (eVar 0) (aCons (eVar 1) (aCons (eC (.int 10)) aNil)))) (fo := eVar 8) (fi := eCall F_law_draw (aCons (eVar 0) (aCons (eVar 1) (aCons (eCall lenD (aCons (eVar 8) aNil)) aNil))))
        (fr := [some (scr ns), some (.ref 0), some (gr x), some (gr y), none, none, none, none, some (.ref 1), none]) (S := Tn (n1 + 2) [.lst (tb y.1.1 fun k => .int (y.2 (0, k)))]) (S1 := Tn (n1 + 3) [.lst (tb y.1.1 fun k => .int (y.2 (0, k)))]) (S2 := Tn (n1 + 3) [.lst (tb y.1.1 fun k => .int (y.2 (0, k)))]) (S3 := Tn (n1 + 4) [.lst (tb y.1.1 fun k => .int (y.2 (0, k)))])
        (x := .int v) (n := 1) (k := k) (xs := tb y.1.1 fun k => .int (y.2 (0, k)))
        (by simp; exact dv) (by simp) (by simp [lenD, seqOf, lstOf]; exact dk) (by simp) (by simpa using hk)
      rw [sq_nx hput]
      have st := set_first oy hk (v := v) (Tn (n1 + 4) [.lst ((tb y.1.1 fun i => D.int (y.2 (0, i))).set k (.int v))])
      have tl : tupleD [.ref 1] (Tn (n1 + 4) [.lst ((tb y.1.1 fun i => D.int (y.2 (0, i))).set k (.int v))]) = .ok (.tup ((tb y.1.1 fun i => D.int (y.2 (0, i))).set k (.int v))) (Tn (n1 + 4) [.lst ((tb y.1.1 fun i => D.int (y.2 (0, i))).set k (.int v))]) := by
        simp [tupleD, seqOf, lstOf]
      have cs : slcD (gr y) (some 1) none (Tn (n1 + 4) [.lst ((tb y.1.1 fun i => D.int (y.2 (0, i))).set k (.int v))]) = .ok (.tup (cutD (tb y.1.2 fun j => .tup (tb y.1.1 fun i => .int (y.2 (j, i)))) (some (1 : Int)) none)) (Tn (n1 + 4) [.lst ((tb y.1.1 fun i => D.int (y.2 (0, i))).set k (.int v))]) := rfl
      simp [sSet, tl, cs, st]
    · refine ⟨y, n1 + 2, [], none, oy, by omega, ?_⟩
      have c1 : c = 1 := by omega
      subst c1
      have dr' : F_law_draw [scr ns, .ref 0, .int 2] (Tn (n1 + 1) []) = .ok (.int 1) (Tn (n1 + 2) []) := dr
      simp [sIf, dr', sNil]
  obtain ⟨z, n2, rest, o8, oz, hn2, hk⟩ := key
  rw [sq_nx hk]
  obtain ⟨s3, g3, n3, hs3, _, _, hc3, hn3, hp3⟩ := G_picture ns n2 2 (by decide) (by decide) (by omega) rest
  have ot : OkP ((s3, g3) : Pic) := ⟨hs3, hc3⟩
  rw [sq_set (S1 := Tn n3 rest) (d := gr (s3, g3)) (by simp; exact hp3)]
  simp only [List.set_cons_succ, List.set_cons_zero]
  obtain ⟨a5, a9, hl⟩ := loop_one (it := ⟨[gr z, gr (s3, g3)], none⟩) rfl hx (Tn n3 rest) ns [z, (s3, g3)] (by intro q hq; simp at hq; rcases hq with rfl | rfl; exact oz; exact ot) (some (gr z)) (some (gr (s3, g3))) none none none o8 none
  rw [sq_nx (show sFor _ (gN 5) _ _ _ = _ by
    have hi : iSeq (eTup (aCons (eVar 3) (aCons (eVar 4) aNil))) [some (scr ns), some (.ref 0), some (gr x), some (gr z), some (gr (s3, g3)), none, none, none, o8, none] (Tn n3 rest) = .ok ⟨[gr z, gr (s3, g3)], none⟩ (Tn n3 rest) := by simp [iSeq, seqIts]
    simp only [sFor, hi, Res.then_ok]
    exact hl)]
  rw [sq_set (S1 := Tn n3 rest) (d := gr x) (by simp)]
  simp only [List.set_cons_succ, List.set_cons_zero]
  have m0 : x ∈ kinL x := by simp [kinL]
  have m1 : tn x ∈ kinL x := by simp [kinL]
  have m2 : tn (tn x) ∈ kinL x := by simp [kinL]
  have m3 : tn (tn (tn x)) ∈ kinL x := by simp [kinL]
  rw [sq_nx (show sFor _ (gN 7) _ _ _ = _ by
    have hr : iRng1' (aCons (eC (.int 4)) aNil) [some (scr ns), some (.ref 0), some (gr x), some (gr z), some (gr (s3, g3)), a5, some (gr x), none, o8, a9] (Tn n3 rest) = .ok ⟨rngD 0 4, none⟩ (Tn n3 rest) := irng (n := 4) (by simp) (by decide)
    simp only [sFor, hr, Res.then_ok]
    rw [show (rngD 0 4) = [.int 0, .int 1, .int 2, .int 3] from rfl]
    rw [loopF_cons rfl (g := gN 7) rfl (step_made hx m0 _ ns _ _ _ _ _ _), loopF_cons rfl (g := gN 7) rfl (step_made hx m1 _ ns _ _ _ _ _ _), loopF_cons rfl (g := gN 7) rfl (step_made hx m2 _ ns _ _ _ _ _ _), loopF_cons rfl (g := gN 7) rfl (step_made hx m3 _ ns _ _ _ _ _ _), loopF_nil rfl])]
  refine ⟨Tn n3 rest, ?_⟩
  rw [s_ret (S1 := Tn n3 rest) (d := .bl true) (by simp [tn4, eq_self' (pl_gr 9 x)])]
  rfl
end Py
open PySem PySem.W PyProof.Rows
set_option maxRecDepth 100000 in
set_option maxHeartbeats 0 in
theorem PySem.Challenge.cw_picturehall_k02_whole_kin_holds : PySem.Challenge.rw_picturehall_k02_whole_kin.Holds := by
  w_on; o_law; k_head; (case hw => w_witness2)
  k_fill
  refine L2.walk_of (l := PySem.Challenge.rw_picturehall_k02_whole_kin) (n := 63) (k := 6) (x := "script") (CX := fun w => L2N.CX (PySem.Challenge.rw_picturehall_k02_whole_kin).prog w) (sp := fun w => Py.spEnd _) rfl (by decide) rfl ⟨rfl, by decide, by decide⟩ (fun w h Y => PySem.W.kIn_of Y) ?F (fun _ _ a ns hl ho hS => Py.end_sp hl ho hS) (fun _ _ _ _ _ h => Py.cxn_false h)
  case F =>
    intro w mg fa h KX G hmg
    refine Py.all_ok KX G hmg ?gT ?gz ?gM Py.law_true
    case gT =>
      refine ⟨?t0, ?t1, ?t2, ?t3, ?t4, ?t5, ?t6, ?t7, ?t8, ?t9, ?t10, ?t11, ?t12, ?t13, ?t14, ?t15, ?t16, ?t17, ?t18⟩
      case t0 => (refine' Py.def_mk ?a ?l ?c ?k; (case a => k_is); (case l => k_is); (case c => k_is); (case k => k_is))
      case t1 => (refine' Py.def_mk ?a ?l ?c ?k; (case a => k_is); (case l => k_is); (case c => k_is); (case k => k_is))
      case t2 => (refine' Py.def_mk ?a ?l ?c ?k; (case a => k_is); (case l => k_is); (case c => k_is); (case k => k_is))
      case t3 => (refine' Py.def_mk ?a ?l ?c ?k; (case a => k_is); (case l => k_is); (case c => k_is); (case k => k_is))
      case t4 => (refine' Py.def_mk ?a ?l ?c ?k; (case a => k_is); (case l => k_is); (case c => k_is); (case k => k_is))
      case t5 => (refine' Py.def_mk ?a ?l ?c ?k; (case a => k_is); (case l => k_is); (case c => k_is); (case k => k_is))
      case t6 => (refine' Py.def_mk ?a ?l ?c ?k; (case a => k_is); (case l => k_is); (case c => k_is); (case k => k_is))
      case t7 => (refine' Py.def_mk ?a ?l ?c ?k; (case a => k_is); (case l => k_is); (case c => k_is); (case k => k_is))
      case t8 => (refine' Py.def_mk ?a ?l ?c ?k; (case a => k_is); (case l => k_is); (case c => k_is); (case k => k_is))
      case t9 => (refine' Py.def_mk ?a ?l ?c ?k; (case a => k_is); (case l => k_is); (case c => k_is); (case k => k_is))
      case t10 => (refine' Py.def_mk ?a ?l ?c ?k; (case a => k_is); (case l => k_is); (case c => k_is); (case k => k_is))
      case t11 => (refine' Py.def_mk ?a ?l ?c ?k; (case a => k_is); (case l => k_is); (case c => k_is); (case k => k_is))
      case t12 => (refine' Py.def_mk ?a ?l ?c ?k; (case a => k_is); (case l => k_is); (case c => k_is); (case k => k_is))
      case t13 => (refine' Py.def_mk ?a ?l ?c ?k; (case a => k_is); (case l => k_is); (case c => k_is); (case k => k_is))
      case t14 => (refine' Py.def_mk ?a ?l ?c ?k; (case a => k_is); (case l => k_is); (case c => k_is); (case k => k_is))
      case t15 => (refine' Py.def_mk ?a ?l ?c ?k; (case a => k_is); (case l => k_is); (case c => k_is); (case k => k_is))
      case t16 => (refine' Py.def_mk ?a ?l ?c ?k; (case a => k_is); (case l => k_is); (case c => k_is); (case k => k_is))
      case t17 => (refine' Py.def_mk ?a ?l ?c ?k; (case a => k_is); (case l => k_is); (case c => k_is); (case k => k_is))
      case t18 => (refine' Py.def_mk ?a ?l ?c ?k; (case a => k_is); (case l => k_is); (case c => k_is); (case k => k_is))
    case gz =>
      refine' Py.free_mk KX G ?h0 ?h1 ?h2 ?h3 ?h4 ?h5 ?h6 ?h7 ?h8 ?h9 ?h10 ?h11 ?h12 ?h13 ?h14 ?h15 ?h16 ?h17
      (case h0 => k_is); (case h1 => k_is); (case h2 => k_is); (case h3 => k_is); (case h4 => k_is); (case h5 => k_is); (case h6 => k_is); (case h7 => k_is); (case h8 => k_is); (case h9 => k_is); (case h10 => k_is); (case h11 => k_is); (case h12 => k_is); (case h13 => k_is); (case h14 => k_is); (case h15 => k_is); (case h16 => k_is); (case h17 => k_is)
    case gM =>
      refine ⟨?c_GREAT, ?c_SIDE, ?x_NoPicture, trivial⟩
      case c_GREAT => (refine' Py.int_mk KX G ?a; (case a => k_is))
      case c_SIDE => (refine' Py.int_mk KX G ?a; (case a => k_is))
      case x_NoPicture => (refine' Py.exc_mk KX G ?a ?e ?k ?s ?t; (case a => k_is); (case e => k_exc); (case k => k_is); (case s => k_is); (case t => k_is))
